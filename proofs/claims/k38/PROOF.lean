import PyProof.Rows.All
import Wide.All
import OpenK.AllK
import Wide.FinOn
import HandS.ForMost
import HandS.Exc
import HandS.HeadHook1
import HandS.HeadHook4
import HandS.Lambda
import KE.KDictKeyed
import HandS.IsInst
import HandS.HeadHook2
import HandS.TupAny
import HandS.Style
import HandS.Deep
import HandS.Wide
import HandS.TupMul
import HandS.SortRule
import HandS.SortInts
import HandS.Conv
import KE.SortData
import PyProof.RowDictHeap
import PyProof.ReprRoads
import PyProof.CallFns
import HandS.Zip
import HandS.ForExc
import HandS.Defaults
import HandS.HeadEnd
import PyProof.Draws
import PyProof.StrBlock2
import KE.GoesMore
import HandS.Text
import HandS.SetFor
import HandS.Dict
import HandS.TryOnly
import HandS.ExcOwn
import HandS.ExcInit
import HandS.ExcValue
import HandS.ExcIs
import HandS.ExcField
import KE.KExcIs
import HandS.HeadHook3
import HandS.More
import PyProof.DictUpdate
import KE.KDictPairs
import KE.KLam
import KE.KAssignIn
import KE.KDictZip
import KE.SortKeyHeap
import HandS.SortKw
import HandS.DictTup
import KE.KDictCopyH
import PyProof.DictMoreH
import HandS.DictComp
import PyProof.Rows.TupDisplay
import HandS.TupLen
import PyProof.StrLaws
import PyProof.StrLawsRepr
import PyProof.FitsInt
import PyProof.ReprReads
import KE.KRevSl
import HandS.Steps
import HandS.List
import KE.DataMinMax
import HandS.Comp
import HandS.Base
import HandS.Call
import HandS.Head0
import HandS.Head1
import HandS.Head2
import HandS.Ends
import HandS.Words
import HandS.WordsExc
import KE.KStateDown
import PySem.Challenge.RW_callpolicy_k38_joint_endings_by_hand
set_option Elab.async false
set_option linter.all false
set_option maxRecDepth 100000
set_option maxHeartbeats 0
/-! Cp0: values by content over the hand layer: data (PyData), cells (lists and dicts that change), what an expression and a statement mean as functions, and how such a meaning is a reading. -/
namespace Cp
open PySem L2
/-- the written part, and the world (texts hash by it) -/
structure Kw where
  K : PySem.W.Frag
  w : World
instance : Coe Kw PySem.W.Frag := ⟨Kw.K⟩
structure Er where
  cls : Str
  arg : Option (Str × PyData)
/-- what a field of an object holds, or an item of its list -/
inductive Fv where
  | d (x : PyData)
  | ob (j : Nat)
/-- a thunk: a lambda without parameters, its code object, its name, the data that its maker's names hold -/
structure Th where
  f : Addr
  c : Addr
  q : Str
  ds : List (Option Fv)
  σ : L2.St
/-- what is neither data nor a cell: an object of the heap cell, a caught error, a def of the text, a dict from texts to such, a thunk -/
inductive Ob where
  | ob (j : Nat)
  | th (t : Th)
  | er (e : Er)
  | fn (x : Str)
  | fns (t : List (Str × Str))
  | tp (ds : List PyData)
/-- what a local name holds: data (never changed), a cell's number, the script, another thing -/
inductive Vl where
  | d (x : PyData)
  | c (i : Nat)
  | s (ns : List Int)
  | o (x : Ob)
/-- what a cell holds -/
inductive Cl where
  | l (xs : List PyData)
  | m (kvs : List (PyData × PyData))
/-- an object that changes: an instance of the class cls, a list -/
inductive Ho where
  | ins (cls : Str) (fs : List (Str × Fv))
  | lst (xs : List Fv)
/-- the places of the cells (that of the heap cell, 0, does not matter), and those of the heap cell's objects -/
structure Mu where
  l : List Addr
  η : List Addr
instance : Membership Addr Mu := ⟨fun μ a => a ∈ μ.l.tail ∨ a ∈ μ.η⟩
abbrev Mu.push (μ : Mu) (a : Addr) : Mu := ⟨μ.l ++ [a], μ.η⟩
abbrev Mu.obj (μ : Mu) (a : Addr) : Mu := ⟨μ.l, μ.η ++ [a]⟩
abbrev Mu.take (μ : Mu) (n : Nat) : Mu := ⟨μ.l.take n, μ.η⟩
theorem Mu.mem_iff {μ : Mu} {a : Addr} : a ∈ μ ↔ a ∈ μ.l.tail ∨ a ∈ μ.η := Iff.rfl
theorem Mu.mem_l {μ : Mu} {i : Nat} {a : Addr} (h : μ.l[i]? = some a) (hi : i ≠ 0) : a ∈ μ := by
  refine .inl ?_
  cases i with
  | zero => exact absurd rfl hi
  | succ i => exact List.mem_of_getElem? (i := i) (by rw [List.getElem?_tail]; exact h)
theorem Mu.mem_η {μ : Mu} {j : Nat} {a : Addr} (h : μ.η[j]? = some a) : a ∈ μ := .inr (List.mem_of_getElem? h)
/-- what an expression gives: data, a cell, or a new object that nobody else holds -/
inductive Rv where
  | d (x : PyData)
  | c (i : Nat)
  | s (ns : List Int)
  | n (o : Cl)
  | o (x : Ob)
abbrev Sto := List Cl
def Fv.vl : Fv → Vl
  | .d x => .d x
  | .ob j => .o (.ob j)
inductive Res (α : Type) where
  | ok (a : α) (s : Sto)
  | er (e : Er) (s : Sto)
  | no
abbrev En := List (Option Vl)
abbrev Ev := En → Sto → Res Rv
@[reducible] def Res.bind {α β : Type} (r : Res α) (f : α → Sto → Res β) : Res β :=
  match r with
  | .ok a s => f a s
  | .er e s => .er e s
  | .no => .no
/-! ### data in the abstract heap -/
def kD : Key → PyData
  | .inl i => .int i
  | .inr x => .str x
/-- a dict's object whose keys are tuples, by its entries -/
def dgE (w : World) (x : NestedKey × Addr × Value) : DictEntry := ⟨x.1.hash w, .ref x.2.1, x.2.2⟩
def DgPr (e : NestedKey × Addr × V) (x : NestedKey × Addr × Value) : Prop := e.1 = x.1 ∧ e.2.1 = x.2.1 ∧ RelV e.2.2 x.2.2
def dgO (w : World) (r : Obj) (a : Addr) (es : List (NestedKey × Addr × V)) : HO := .ext fun h => es.length ≤ sizeLine ∧ (a == sysModules) = false ∧ ∃ xs o ar ep, Paired DgPr es xs ∧ (h.get? a = some o ∧ o = r) ∧ o.ExactDict ∧ o.data = .dict ar ep ∧ ar.toList = xs.map (dgE w)
mutual
/-- a key: an int, a text, None, a tuple of such -/
def keyN : PyData → Option NestedKey
  | .none => some .none
  | .int i => some (.num i)
  | .str x => some (.text x)
  | .tuple xs => match keysN xs with
    | some ks => some (.tup ks)
    | none => none
  | _ => none
def keysN : List PyData → Option (List NestedKey)
  | [] => some []
  | d :: ds => match keyN d, keysN ds with
    | some k, some ks => some (k :: ks)
    | _, _ => none
end
mutual
inductive Dq (K : Kw) (F : Hp) : V → PyData → Prop
  | non : Dq K F .non .none
  | bl (b : Bool) : Dq K F (.bl b) (.bool b)
  | int (i : Int) : Dq K F (.int i) (.int i)
  | str (x : Str) : Dq K F (.str x) (.str x)
  | lst {a : Addr} {xs : List V} {ds : List PyData} : F a = some (.lst xs) → DqAll K F xs ds → Dq K F (.ref a) (.list ds)
  | tup {a : Addr} {xs : List V} {ds : List PyData} : Rd F a (.tup xs) → DqAll K F xs ds → Dq K F (.ref a) (.tuple ds)
  | dic {a : Addr} {ws : List (Key × V)} {kvs : List (PyData × PyData)} : F a = some (.dK ws) → DqKv K F ws kvs → Dq K F (.ref a) (.dict kvs)
  | dig {a : Addr} {r : Obj} {es : List (NestedKey × Addr × V)} {kvs : List (PyData × PyData)} : F a = some (dgO K.w r a es) → DqG K F es kvs → (es.map (·.1)).Nodup → es ≠ [] → Dq K F (.ref a) (.dict kvs)
  | ins {a dx : Addr} {x : Str} {fs : List (Str × V)} {kvs : List (PyData × PyData)} : F a = some (.ins (He.ga K x) dx fs) → F dx = some (.own a) → DqF K F fs kvs → Dq K F (.ref a) (.dict ((.list [], .str x) :: kvs))
inductive DqAll (K : Kw) (F : Hp) : List V → List PyData → Prop
  | nil : DqAll K F [] []
  | cons {v : V} {vs : List V} {d : PyData} {ds : List PyData} : Dq K F v d → DqAll K F vs ds → DqAll K F (v :: vs) (d :: ds)
inductive DqKv (K : Kw) (F : Hp) : List (Key × V) → List (PyData × PyData) → Prop
  | nil : DqKv K F [] []
  | cons {k : Key} {v : V} {ws : List (Key × V)} {d : PyData} {kvs : List (PyData × PyData)} : Dq K F v d → DqKv K F ws kvs → DqKv K F ((k, v) :: ws) ((kD k, d) :: kvs)
/-- keys that are tuples -/
inductive DqG (K : Kw) (F : Hp) : List (NestedKey × Addr × V) → List (PyData × PyData) → Prop
  | nil : DqG K F [] []
  | cons {k : NestedKey} {b : Addr} {v : V} {es : List (NestedKey × Addr × V)} {kd d : PyData} {kvs : List (PyData × PyData)} : Dq K F (.ref b) kd → keyN kd = some k → k.depth ≤ 8 → Dq K F v d → DqG K F es kvs → DqG K F ((k, b, v) :: es) ((kd, d) :: kvs)
/-- the fields of an instance -/
inductive DqF (K : Kw) (F : Hp) : List (Str × V) → List (PyData × PyData) → Prop
  | nil : DqF K F [] []
  | cons {x : Str} {v : V} {fs : List (Str × V)} {d : PyData} {kvs : List (PyData × PyData)} : Dq K F v d → DqF K F fs kvs → DqF K F ((x, v) :: fs) ((.str x, d) :: kvs)
end
section
variable {K : Kw} {F F' : Hp}
theorem same_rd {a : Addr} {u : HO} (e : Same F F') (h : Rd F a u) : Rd F' a u := by
  rcases h with h | ⟨o, h⟩
  · exact .inl (e _ _ h)
  · exact .inr ⟨o, e _ _ h⟩
theorem SqT.rd {KK : PySem.W.Frag} {H : Hp} {a : Addr} {xs : List V} (e : Same F H) (h : Rd F a (.tup xs)) : SqT KK H a xs := .inl (same_rd e h)
mutual
theorem Dq.same (e : Same F F') : ∀ {v : V} {d : PyData}, Dq K F v d → Dq K F' v d
  | _, _, .non => .non
  | _, _, .bl b => .bl b
  | _, _, .int i => .int i
  | _, _, .str x => .str x
  | _, _, .lst h r => .lst (e _ _ h) (DqAll.same e r)
  | _, _, .tup h r => .tup (same_rd e h) (DqAll.same e r)
  | _, _, .dic h r => .dic (e _ _ h) (DqKv.same e r)
  | _, _, .dig h r n z => .dig (e _ _ h) (DqG.same e r) n z
  | _, _, .ins h g r => .ins (e _ _ h) (e _ _ g) (DqF.same e r)
theorem DqAll.same (e : Same F F') : ∀ {vs : List V} {ds : List PyData}, DqAll K F vs ds → DqAll K F' vs ds
  | _, _, .nil => .nil
  | _, _, .cons h r => .cons (Dq.same e h) (DqAll.same e r)
theorem DqKv.same (e : Same F F') : ∀ {vs : List (Key × V)} {ds : List (PyData × PyData)}, DqKv K F vs ds → DqKv K F' vs ds
  | _, _, .nil => .nil
  | _, _, .cons h r => .cons (Dq.same e h) (DqKv.same e r)
theorem DqG.same (e : Same F F') : ∀ {vs : List (NestedKey × Addr × V)} {ds : List (PyData × PyData)}, DqG K F vs ds → DqG K F' vs ds
  | _, _, .nil => .nil
  | _, _, .cons h k l g r => .cons (Dq.same e h) k l (Dq.same e g) (DqG.same e r)
theorem DqF.same (e : Same F F') : ∀ {vs : List (Str × V)} {ds : List (PyData × PyData)}, DqF K F vs ds → DqF K F' vs ds
  | _, _, .nil => .nil
  | _, _, .cons h r => .cons (Dq.same e h) (DqF.same e r)
end
theorem DqAll.length : ∀ {vs : List V} {ds : List PyData}, DqAll K F vs ds → vs.length = ds.length
  | _, _, .nil => rfl
  | _, _, .cons _ r => by rw [List.length_cons, List.length_cons, r.length]
theorem DqAll.get : ∀ {vs : List V} {ds : List PyData} {i : Nat} {d : PyData}, DqAll K F vs ds → ds[i]? = some d → ∃ v, vs[i]? = some v ∧ Dq K F v d
  | _, _, _, _, .nil, e => by simp at e
  | _, _, 0, _, .cons h _, e => by simp at e; subst e; exact ⟨_, rfl, h⟩
  | _, _, i + 1, _, .cons _ r, e => by
    obtain ⟨v, h1, h2⟩ := DqAll.get (i := i) r (by simpa using e)
    exact ⟨v, by simpa using h1, h2⟩
theorem DqAll.getv : ∀ {vs : List V} {ds : List PyData} {i : Nat} {v : V}, DqAll K F vs ds → vs[i]? = some v → ∃ d, ds[i]? = some d ∧ Dq K F v d
  | _, _, _, _, .nil, e => by simp at e
  | _, _, 0, _, .cons h _, e => by simp at e; subst e; exact ⟨_, rfl, h⟩
  | _, _, i + 1, _, .cons _ r, e => by
    obtain ⟨v, h1, h2⟩ := DqAll.getv (i := i) r (by simpa using e)
    exact ⟨v, by simpa using h1, h2⟩
theorem DqAll.app : ∀ {vs ws : List V} {ds es : List PyData}, DqAll K F vs ds → DqAll K F ws es → DqAll K F (vs ++ ws) (ds ++ es)
  | _, _, _, _, .nil, h => h
  | _, _, _, _, .cons h r, h' => .cons h (DqAll.app r h')
theorem DqAll.set {x : V} {d : PyData} (hx : Dq K F x d) : ∀ {vs : List V} {ds : List PyData} (i : Nat), DqAll K F vs ds → DqAll K F (vs.set i x) (ds.set i d)
  | _, _, _, .nil => .nil
  | _, _, 0, .cons _ r => .cons hx r
  | _, _, i + 1, .cons h r => .cons h (DqAll.set hx i r)
theorem DqAll.take : ∀ {vs : List V} {ds : List PyData} (n : Nat), DqAll K F vs ds → DqAll K F (vs.take n) (ds.take n)
  | _, _, 0, _ => .nil
  | _, _, _ + 1, .nil => .nil
  | _, _, n + 1, .cons h r => .cons h (DqAll.take n r)
theorem DqAll.drop : ∀ {vs : List V} {ds : List PyData} (n : Nat), DqAll K F vs ds → DqAll K F (vs.drop n) (ds.drop n)
  | _, _, 0, h => h
  | _, _, _ + 1, .nil => .nil
  | _, _, n + 1, .cons _ r => DqAll.drop n r
theorem DqAll.rev : ∀ {vs : List V} {ds : List PyData}, DqAll K F vs ds → DqAll K F vs.reverse ds.reverse
  | _, _, .nil => .nil
  | _, _, .cons h r => by
    rw [List.reverse_cons, List.reverse_cons]
    exact DqAll.app (DqAll.rev r) (.cons h .nil)
end
/-! ### cells, values, environments -/
/-- a dict: its keys ints and texts, or tuples -/
def DcOk (K : Kw) (F : Hp) (a : Addr) (kvs : List (PyData × PyData)) (o : HO) : Prop :=
  (∃ ws, o = .dK ws ∧ DqKv K F ws kvs) ∨ ∃ es, (∃ r, o = dgO K.w r a es) ∧ DqG K F es kvs ∧ (es.map (·.1)).Nodup ∧ es ≠ []
theorem DcOk.same {K : Kw} {F F' : Hp} {a : Addr} {kvs : List (PyData × PyData)} {o : HO} (e : Same F F') (h : DcOk K F a kvs o) : DcOk K F' a kvs o := by
  rcases h with ⟨ws, h1, h2⟩ | ⟨es, h1, h2, h3, h4⟩
  · exact .inl ⟨ws, h1, h2.same e⟩
  · exact .inr ⟨es, h1, h2.same e, h3, h4⟩
theorem DcOk.dq {K : Kw} {F : Hp} {a : Addr} {kvs : List (PyData × PyData)} {o : HO} (h : DcOk K F a kvs o) (e : F a = some o) : Dq K F (.ref a) (.dict kvs) := by
  rcases h with ⟨ws, h1, h2⟩ | ⟨es, h1, h2, h3, h4⟩
  · subst h1; exact .dic e h2
  · obtain ⟨r, h1⟩ := h1; subst h1; exact .dig e h2 h3 h4
def ClOk (K : Kw) (F : Hp) (a : Addr) : Cl → HO → Prop
  | .l ds, o => ∃ xs, o = .lst xs ∧ DqAll K F xs ds
  | .m kvs, o => DcOk K F a kvs o
/-- what stands in the place of a cell that has become data (no dict has such a key) -/
def gone : Cl := .m [(.list [], .none)]
/-- where a def stands: "f", or "C.m" for a method -/
def dfn (x : Str) : Str × Option Str := match x.cps.toList.span (fun c => c != 46) with
  | (_, []) => (x, none)
  | (a, _ :: b) => (⟨a.toArray⟩, some ⟨b.toArray⟩)
/-- the table of code objects of the def x, each of the name q -/
def tabC (x q : Str) : Cl := .m [(.list [], .tuple [.str x, .str q])]
def isGone : Cl → Bool
  | .m ((.list [], .none) :: _) => true
  | .m [(.list [], .tuple _)] => true
  | _ => false
def isDead : Cl → Bool
  | .m ((.list [], .none) :: _) => true
  | _ => false
theorem notDead {c : Cl} (h : isGone c = false) : isDead c = false := by
  unfold isGone at h
  split at h
  · cases h
  · cases h
  · rename_i h1 h2
    unfold isDead
    split
    · exact absurd rfl (h1 _)
    · rfl
def TabW (K : Kw) (F : Hp) (a : Addr) (c : Cl) (o : HO) : Prop := ∀ x q, c = tabC x q → (He.cT K.K (dfn x)).2 = a ∧ ∃ ps : Array Value, o = .tbl ps ∧ TriplesOk ps.toList ∧ ∀ (pos : Pos) (cv : Value), codeAmong pos ps.toList = some cv → ∃ c', cv = .ref c' ∧ F c' = some (LamX.CodeO c' q)
theorem TabW.same {K : Kw} {F F' : Hp} {a : Addr} {c : Cl} {o : HO} (e : Same F F') (h : TabW K F a c o) : TabW K F' a c o := fun x q z => by
  obtain ⟨h1, ps, h2, h3, h4⟩ := h x q z
  refine ⟨h1, ps, h2, h3, fun pos cv hc => ?_⟩
  obtain ⟨c', k1, k2⟩ := h4 pos cv hc
  exact ⟨c', k1, e _ _ k2⟩
def ClW (K : Kw) (F : Hp) (a : Addr) (c : Cl) (o : HO) : Prop := (isGone c = true ∧ TabW K F a c o) ∨ ClOk K F a c o
/-! ### the heap cell: the objects that change -/
def encV : Fv → PyData
  | .d x => .tuple [x]
  | .ob j => .int j
def encF (p : Str × Fv) : PyData := .tuple [.str p.1, encV p.2]
def encO : Ho → PyData
  | .ins cls fs => .tuple [.str cls, .list (fs.map encF)]
  | .lst xs => .list (xs.map encV)
theorem encV_inj : ∀ a b, encV a = encV b → a = b := fun a b h => by
  cases a <;> cases b <;> unfold encV at h <;> cases h <;> rfl
theorem map_inj {α β : Type} {f : α → β} (hf : ∀ a b, f a = f b → a = b) : ∀ {xs ys : List α}, xs.map f = ys.map f → xs = ys
  | [], [], _ => rfl
  | [], _ :: _, h => by cases h
  | _ :: _, [], h => by cases h
  | x :: xs, y :: ys, h => by
    rw [List.map_cons, List.map_cons] at h
    injection h with h1 h2
    rw [hf _ _ h1, map_inj hf h2]
theorem encF_inj : ∀ a b, encF a = encF b → a = b := fun ⟨a, x⟩ ⟨b, y⟩ h => by
  unfold encF at h
  injection h with h; injection h with h1 h; injection h with h2 _; injection h1 with h1
  have h2 := encV_inj _ _ h2
  simp only at h1 h2
  rw [h1, h2]
theorem encO_inj : ∀ a b, encO a = encO b → a = b := fun a b h => by
  cases a <;> cases b <;> unfold encO at h
  · injection h with h; injection h with h1 h; injection h with h2 _; injection h1 with h1; injection h2 with h2
    rw [map_inj encF_inj h2, h1]
  · cases h
  · cases h
  · injection h with h
    rw [map_inj encV_inj h]
def heapC (objs : List Ho) : Cl := .m [(.list [], .none), (.list (objs.map encO), .none)]
theorem heapC_inj {a b : List Ho} (h : heapC a = heapC b) : a = b := by
  unfold heapC at h
  injection h with h; injection h with _ h; injection h with h _; injection h with h _; injection h with h
  exact map_inj encO_inj h
def FvOk (K : Kw) (F : Hp) (η : List Addr) : Fv → V → Prop
  | .d x, v => Dq K F v x
  | .ob j, v => ∃ a, η[j]? = some a ∧ v = .ref a
inductive FvAll (K : Kw) (F : Hp) (η : List Addr) : List Fv → List V → Prop
  | nil : FvAll K F η [] []
  | cons {x : Fv} {v : V} {xs : List Fv} {vs : List V} : FvOk K F η x v → FvAll K F η xs vs → FvAll K F η (x :: xs) (v :: vs)
inductive FlOk (K : Kw) (F : Hp) (η : List Addr) : List (Str × Fv) → List (Str × V) → Prop
  | nil : FlOk K F η [] []
  | cons {f : Str} {x : Fv} {v : V} {xs : List (Str × Fv)} {vs : List (Str × V)} : FvOk K F η x v → FlOk K F η xs vs → FlOk K F η ((f, x) :: xs) ((f, v) :: vs)
def HoOk (K : Kw) (F : Hp) (η : List Addr) (a : Addr) : Ho → HO → Prop
  | .ins cls fs, o => ∃ dx us, o = .ins (He.ga K cls) dx us ∧ F dx = some (.own a) ∧ FlOk K F η fs us
  | .lst xs, o => ∃ us, o = .lst us ∧ FvAll K F η xs us
section
variable {K : Kw} {F F' : Hp} {η : List Addr}
theorem FvOk.later {x : Fv} {v : V} (e : Same F F') (r : List Addr) (h : FvOk K F η x v) : FvOk K F' (η ++ r) x v := by
  cases x with
  | d x => exact Dq.same e h
  | ob j =>
    obtain ⟨a, h1, h2⟩ := h
    exact ⟨a, by rw [List.getElem?_append_left (List.getElem?_eq_some_iff.mp h1).1]; exact h1, h2⟩
theorem FvAll.later (e : Same F F') (r : List Addr) : ∀ {xs : List Fv} {vs : List V}, FvAll K F η xs vs → FvAll K F' (η ++ r) xs vs
  | _, _, .nil => .nil
  | _, _, .cons h t => .cons (h.later e r) (FvAll.later e r t)
theorem FlOk.later (e : Same F F') (r : List Addr) : ∀ {xs : List (Str × Fv)} {vs : List (Str × V)}, FlOk K F η xs vs → FlOk K F' (η ++ r) xs vs
  | _, _, .nil => .nil
  | _, _, .cons h t => .cons (h.later e r) (FlOk.later e r t)
theorem HoOk.later {a : Addr} {x : Ho} {o : HO} (e : Same F F') (r : List Addr) (h : HoOk K F η a x o) : HoOk K F' (η ++ r) a x o := by
  cases x with
  | ins cls fs => obtain ⟨dx, us, h1, h2, h3⟩ := h; exact ⟨dx, us, h1, e _ _ h2, h3.later e r⟩
  | lst xs => obtain ⟨us, h1, h2⟩ := h; exact ⟨us, h1, h2.later e r⟩
theorem HoOk.same {a : Addr} {x : Ho} {o : HO} (e : Same F F') (h : HoOk K F η a x o) : HoOk K F' η a x o := by
  have := h.later e []
  rwa [List.append_nil] at this
end
theorem gone_w {K : Kw} {F : Hp} {a : Addr} {o : HO} : ClW K F a gone o := .inl ⟨rfl, fun x q e => by
  unfold gone tabC at e
  injection e with e; injection e with e _; injection e with _ e; cases e⟩
/-- the dict of an error, by its one field -/
def ErD (K : Kw) (F : Hp) : Option (Str × PyData) → Option Addr → Prop
  | none, dd => dd = none
  | some (f, x), dd => ∃ a v, dd = some a ∧ F a = some (.xd [(f, v)]) ∧ Dq K F v x
def erO (a : Addr) (cls : Value) (dd : Option Addr) : HO := .ext fun h => ∃ oe vs, h.get? a = some oe ∧ Zc cls dd oe ∧ oe.data = .fields vs
def ObOk (K : Kw) (F : Hp) (η : List Addr) : Ob → V → Prop
  | .ob j, v => ∃ a, η[j]? = some a ∧ v = .ref a
  | .th t, v => v = .ref t.f ∧ F t.c = some (LamX.CodeO t.c t.q) ∧ t.ds.length = t.σ.length ∧ ∀ (i : Nat) (d : Fv), t.ds[i]? = some (some d) → ∃ u, t.σ[i]? = some (some u) ∧ FvOk K F η d u
  | .er e, v => ∃ a dd, v = .ref a ∧ F a = some (erO a (.ref (He.ga K e.cls)) dd) ∧ ErD K F e.arg dd
  | .fn x, v => v = .ref (He.ga K x)
  | .fns t, v => ∃ a, v = .ref a ∧ F a = some (.dK (t.map fun p => (.inr p.1, .ref (He.ga K p.2))))
  | .tp ds, v => ∃ a xs o, v = .ref a ∧ F a = some (.frz o (.tup xs)) ∧ o.dict = none ∧ DqAll K F xs ds
theorem ErD.same {K : Kw} {F F' : Hp} (e : Same F F') : ∀ {x : Option (Str × PyData)} {dd : Option Addr}, ErD K F x dd → ErD K F' x dd
  | none, _, h => h
  | some (f, x), _, ⟨a, v, h1, h2, h3⟩ => ⟨a, v, h1, e _ _ h2, Dq.same e h3⟩
theorem ObOk.same {K : Kw} {F F' : Hp} {η : List Addr} (r : List Addr) (e : Same F F') : ∀ {x : Ob} {v : V}, ObOk K F η x v → ObOk K F' (η ++ r) x v
  | .ob _, _, ⟨a, h1, h2⟩ => ⟨a, by rw [List.getElem?_append_left (List.getElem?_eq_some_iff.mp h1).1]; exact h1, h2⟩
  | .th _, _, ⟨h1, h2, h3, h4⟩ => ⟨h1, e _ _ h2, h3, fun i d q => let ⟨u, k1, k2⟩ := h4 i d q; ⟨u, k1, k2.later e r⟩⟩
  | .er _, _, ⟨a, dd, h1, h2, h3⟩ => ⟨a, dd, h1, e _ _ h2, h3.same e⟩
  | .fn _, _, h => h
  | .fns _, _, ⟨a, h1, h2⟩ => ⟨a, h1, e _ _ h2⟩
  | .tp _, _, ⟨a, xs, o, h1, h2, h3, h4⟩ => ⟨a, xs, o, h1, e _ _ h2, h3, DqAll.same e h4⟩
def Vok (K : Kw) (F : Hp) (μ : Mu) : Vl → V → Prop
  | .d x, v => Dq K F v x
  | .c i, v => ∃ a, μ.l[i]? = some a ∧ v = .ref a
  | .s ns, v => ∃ a, v = .ref a ∧ SqL K F a (ns.map V.int)
  | .o x, v => ObOk K F μ.η x v
def Rok (K : Kw) (F : Hp) (μ : Mu) (H : Hp) : Rv → V → Prop
  | .d x, v => Dq K F v x
  | .c i, v => ∃ a, μ.l[i]? = some a ∧ v = .ref a
  | .s ns, v => ∃ a, v = .ref a ∧ SqL K F a (ns.map V.int)
  | .o x, v => ObOk K F μ.η x v
  | .n c, v => ∃ a o, v = .ref a ∧ H a = some o ∧ ClOk K F a c o ∧ F a = none ∧ a ∉ μ
def Eok (K : Kw) (F : Hp) (μ : Mu) (ρ : En) (σ : St) : Prop :=
  ρ.length = σ.length ∧ ∀ (i : Nat) (x : Vl), ρ[i]? = some (some x) → ∃ v, σ[i]? = some (some v) ∧ Vok K F μ x v
structure SR (K : Kw) (μ : Mu) (F H : Hp) (st : Sto) : Prop where
  nd : (μ.l.tail ++ μ.η).Nodup
  len : μ.l.length = st.length
  sep : ∀ (i : Nat) (a : Addr) (c : Cl), μ.l[i]? = some a → st[i]? = some c → isDead c = false → F a = none
  sub : Same F H
  cell0 : ∀ (i : Nat) (c : Cl), i ≠ 0 → st[i]? = some c → ∃ a o, μ.l[i]? = some a ∧ H a = some o ∧ ClW K F a c o
  obs : ∃ objs, st[0]? = some (heapC objs) ∧ objs.length = μ.η.length ∧ ∀ (j : Nat) (x : Ho), objs[j]? = some x → ∃ a o, μ.η[j]? = some a ∧ F a = none ∧ H a = some o ∧ HoOk K F μ.η a x o
/-- from one state to a later one -/
structure Ext (μ : Mu) (F H : Hp) (μ' : Mu) (F' H' : Hp) : Prop where
  same : Same F F'
  pre : ∃ r, μ'.l = μ.l ++ r
  preη : ∃ r, μ'.η = μ.η ++ r
  fr : ∀ b o, H b = some o → b ∉ μ → H' b = some o
  dom : ∀ b, H' b = none → H b = none
  nF : ∀ a o, F' a = some o → F a = some o ∨ H a = none ∨ a ∈ μ
  nC : ∀ a, a ∈ μ' → a ∈ μ ∨ H a = none
section
variable {K : Kw} {μ μ1 μ2 : Mu} {F H F1 H1 F2 H2 : Hp} {st : Sto}
theorem Ext.refl : Ext μ F H μ F H := ⟨Same.refl F, ⟨[], by simp⟩, ⟨[], by simp⟩, fun _ _ h _ => h, fun _ h => h, fun _ _ h => .inl h, fun _ h => .inl h⟩
theorem Ext.trans (a : Ext μ F H μ1 F1 H1) (b : Ext μ1 F1 H1 μ2 F2 H2) : Ext μ F H μ2 F2 H2 := by
  refine ⟨a.same.trans b.same, ?_, ?_, fun c o h n => ?_, fun c h => a.dom c (b.dom c h), fun c o h => ?_, fun c h => ?_⟩
  · obtain ⟨r, e⟩ := a.pre
    obtain ⟨r', e'⟩ := b.pre
    exact ⟨r ++ r', by rw [e', e, List.append_assoc]⟩
  · obtain ⟨r, e⟩ := a.preη
    obtain ⟨r', e'⟩ := b.preη
    exact ⟨r ++ r', by rw [e', e, List.append_assoc]⟩
  · refine b.fr c o (a.fr c o h n) fun z => ?_
    rcases a.nC c z with z | z
    · exact n z
    · rw [z] at h; cases h
  · rcases b.nF c o h with z | z | z
    · exact a.nF c o z
    · exact .inr (.inl (a.dom c z))
    · rcases a.nC c z with z | z
      · exact .inr (.inr z)
      · exact .inr (.inl z)
  · rcases b.nC c h with z | z
    · exact a.nC c z
    · exact .inr (a.dom c z)
theorem Ext.get (a : Ext μ F H μ1 F1 H1) {i : Nat} {x : Addr} (h : μ.l[i]? = some x) : μ1.l[i]? = some x := by
  obtain ⟨r, e⟩ := a.pre
  rw [e, List.getElem?_append_left (List.getElem?_eq_some_iff.mp h).1]
  exact h
theorem ObOk.ext (a : Ext μ F H μ1 F1 H1) {x : Ob} {v : V} (h : ObOk K F μ.η x v) : ObOk K F1 μ1.η x v := by
  obtain ⟨r, e⟩ := a.preη
  rw [e]
  exact ObOk.same r a.same h
theorem FvOk.ext (a : Ext μ F H μ1 F1 H1) {x : Fv} {v : V} (h : FvOk K F μ.η x v) : FvOk K F1 μ1.η x v := by
  obtain ⟨r, e⟩ := a.preη
  rw [e]
  exact h.later a.same r
theorem Vok.ext (a : Ext μ F H μ1 F1 H1) {x : Vl} {v : V} (h : Vok K F μ x v) : Vok K F1 μ1 x v := by
  cases x with
  | d x => exact Dq.same a.same h
  | c i => obtain ⟨p, h1, h2⟩ := h; exact ⟨p, a.get h1, h2⟩
  | s ns => obtain ⟨p, h1, h2⟩ := h; exact ⟨p, h1, a.same.seq h2⟩
  | o x => exact ObOk.ext a h
theorem Eok.ext (a : Ext μ F H μ1 F1 H1) {ρ : En} {σ : St} (h : Eok K F μ ρ σ) : Eok K F1 μ1 ρ σ :=
  ⟨h.1, fun i x e => let ⟨v, h1, h2⟩ := h.2 i x e; ⟨v, h1, h2.ext a⟩⟩
theorem DqAll.ext (a : Ext μ F H μ1 F1 H1) {xs : List V} {ds : List PyData} (h : DqAll K F xs ds) : DqAll K F1 xs ds := h.same a.same
theorem ClOk.same (e : Same F F1) {a : Addr} {c : Cl} {o : HO} (h : ClOk K F a c o) : ClOk K F1 a c o := by
  cases c with
  | l ds => obtain ⟨xs, h1, h2⟩ := h; exact ⟨xs, h1, h2.same e⟩
  | m kvs => exact DcOk.same e h
theorem ClW.same (e : Same F F1) {a : Addr} {c : Cl} {o : HO} (h : ClW K F a c o) : ClW K F1 a c o := h.imp (fun h => ⟨h.1, h.2.same e⟩) fun h => h.same e
theorem SR.pos (s : SR K μ F H st) : 0 < st.length := by
  obtain ⟨objs, h, _⟩ := s.obs
  exact (List.getElem?_eq_some_iff.mp h).1
theorem SR.ne0 (s : SR K μ F H st) {i : Nat} {c : Cl} (h : st[i]? = some c) (hz : isGone c = false) : i ≠ 0 := fun e => by
  subst e
  obtain ⟨objs, h0, _⟩ := s.obs
  rw [h0] at h; cases h
  cases hz
theorem SR.mem (s : SR K μ F H st) {i : Nat} {c : Cl} {a : Addr} (hi : μ.l[i]? = some a) (h : st[i]? = some c) (hz : isGone c = false) : a ∈ μ := Mu.mem_l hi (s.ne0 h hz)
theorem SR.cell (s : SR K μ F H st) (i : Nat) (c : Cl) (h : st[i]? = some c) (hz : isGone c = false := by rfl) : ∃ a o, μ.l[i]? = some a ∧ H a = some o ∧ ClOk K F a c o := by
  obtain ⟨a, o, h1, h2, h3⟩ := s.cell0 i c (s.ne0 h hz) h
  rcases h3 with h3 | h3
  · rw [hz] at h3; cases h3.1
  · exact ⟨a, o, h1, h2, h3⟩
theorem Rok.ext (a : Ext μ F H μ1 F1 H1) {x : Rv} {v : V} (h : Rok K F μ H x v) : Rok K F1 μ1 H1 x v := by
  cases x with
  | d x => exact Dq.same a.same h
  | c i => obtain ⟨p, h1, h2⟩ := h; exact ⟨p, a.get h1, h2⟩
  | s ns => obtain ⟨p, h1, h2⟩ := h; exact ⟨p, h1, a.same.seq h2⟩
  | o x => exact ObOk.ext a h
  | n c =>
    obtain ⟨p, o, h1, h2, h3, h4, h5⟩ := h
    refine ⟨p, o, h1, a.fr p o h2 h5, h3.same a.same, ?_, fun z => ?_⟩
    · cases q : F1 p with
      | none => rfl
      | some u =>
        rcases a.nF p u q with z | z | z
        · rw [h4] at z; cases z
        · rw [h2] at z; cases z
        · exact absurd z h5
    · rcases a.nC p z with z | z
      · exact h5 z
      · rw [h2] at z; cases z
/-- each place has its own object -/
theorem SR.one (s : SR K μ F H st) {i j : Nat} {a : Addr} (hi : μ.l[i]? = some a) (hj : μ.l[j]? = some a) (i0 : i ≠ 0) (j0 : j ≠ 0) : i = j := by
  cases i with
  | zero => exact absurd rfl i0
  | succ i =>
    cases j with
    | zero => exact absurd rfl j0
    | succ j =>
      have nd := (List.nodup_append.mp s.nd).1
      rw [← List.getElem?_tail] at hi hj
      obtain ⟨l1, e1⟩ := List.getElem?_eq_some_iff.mp hi
      obtain ⟨l2, e2⟩ := List.getElem?_eq_some_iff.mp hj
      rw [(List.getElem_inj nd).mp (e1.trans e2.symm)]
theorem SR.apart (s : SR K μ F H st) {i j : Nat} {a b : Addr} (hi : μ.l[i]? = some a) (hj : μ.η[j]? = some b) (i0 : i ≠ 0) : a ≠ b := by
  cases i with
  | zero => exact absurd rfl i0
  | succ i =>
    rw [← List.getElem?_tail] at hi
    exact (List.nodup_append.mp s.nd).2.2 a (List.mem_of_getElem? hi) b (List.mem_of_getElem? hj)
theorem SR.oneη (s : SR K μ F H st) {i j : Nat} {a : Addr} (hi : μ.η[i]? = some a) (hj : μ.η[j]? = some a) : i = j := by
  have nd := (List.nodup_append.mp s.nd).2.1
  obtain ⟨l1, e1⟩ := List.getElem?_eq_some_iff.mp hi
  obtain ⟨l2, e2⟩ := List.getElem?_eq_some_iff.mp hj
  exact (List.getElem_inj nd).mp (e1.trans e2.symm)
theorem SR.dead (s : SR K μ F H st) {a : Addr} (h : H a = none) : F a = none ∧ a ∉ μ := by
  refine ⟨?_, fun z => ?_⟩
  · cases q : F a with
    | none => rfl
    | some o => rw [s.sub a o q] at h; cases h
  · rcases z with z | z
    · obtain ⟨i, hi, e⟩ := List.getElem_of_mem z
      have hl : i + 1 < st.length := by rw [← s.len]; rw [List.length_tail] at hi; omega
      obtain ⟨b, o, h1, h2, _⟩ := s.cell0 (i + 1) st[i + 1] (by omega) (by simp [hl])
      rw [← List.getElem?_tail, List.getElem?_eq_getElem hi, e] at h1
      cases h1
      rw [h] at h2; cases h2
    · obtain ⟨j, hj, e⟩ := List.getElem_of_mem z
      obtain ⟨objs, _, hl, hall⟩ := s.obs
      have hj' : j < objs.length := by rw [hl]; exact hj
      obtain ⟨b, o, h1, _, h2, _⟩ := hall j objs[j] (by simp [hj'])
      rw [List.getElem?_eq_getElem hj, e] at h1
      cases h1
      rw [h] at h2; cases h2
theorem SR.obs_kept {H' : Hp} (s : SR K μ F H st) (k : ∀ (j : Nat) (a : Addr), μ.η[j]? = some a → ∀ o, H a = some o → H' a = some o) :
    ∃ objs, st[0]? = some (heapC objs) ∧ objs.length = μ.η.length ∧ ∀ (j : Nat) (x : Ho), objs[j]? = some x → ∃ a o, μ.η[j]? = some a ∧ F a = none ∧ H' a = some o ∧ HoOk K F μ.η a x o := by
  obtain ⟨objs, h1, h2, h3⟩ := s.obs
  exact ⟨objs, h1, h2, fun j x e => let ⟨a, o, k1, k2, k3, k4⟩ := h3 j x e; ⟨a, o, k1, k2, k j a k1 o k3, k4⟩⟩
/-- a new object, tracked, held by nobody -/
theorem SR.newly (s : SR K μ F H st) {p : Addr} {o : HO} (hp : H p = none) : SR K μ F (upd H p o) st ∧ Ext μ F H μ F (upd H p o) := by
  have hd := s.dead hp
  have ne : ∀ b u, H b = some u → b ≠ p := fun b u h e => by subst e; rw [hp] at h; cases h
  refine ⟨⟨s.nd, s.len, s.sep, fun b u h => ?_, fun i c i0 h => ?_, s.obs_kept fun j a _ u h => by rw [upd_ne (ne a u h)]; exact h⟩, ⟨Same.refl F, ⟨[], by simp⟩, ⟨[], by simp⟩, fun b u h _ => ?_, fun b h => ?_, fun _ _ h => .inl h, fun _ h => .inl h⟩⟩
  · rw [upd_ne (ne b u (s.sub b u h))]; exact s.sub b u h
  · obtain ⟨a, u, h1, h2, h3⟩ := s.cell0 i c i0 h
    exact ⟨a, u, h1, by rw [upd_ne (ne a u h2)]; exact h2, h3⟩
  · rw [upd_ne (ne b u h)]; exact h
  · by_cases e : b = p
    · subst e; exact hp
    · rw [upd_ne e] at h; exact h
/-- a new object, held by nobody, becomes data -/
theorem SR.freeze {H0 : Hp} (s : SR K μ1 F1 H1 st) (x : Ext μ F H0 μ1 F1 H1) (s0 : Same F H0) {p : Addr} {o : HO} (h0 : H0 p = none) (hp : H1 p = some o) (hF : F1 p = none) (hm : p ∉ μ1) :
    SR K μ1 (upd F1 p o) H1 st ∧ Ext μ F H0 μ1 (upd F1 p o) H1 ∧ Same F1 (upd F1 p o) := by
  have sm : Same F1 (upd F1 p o) := fun b u h => by
    rw [upd_ne (fun e => by subst e; rw [hF] at h; cases h)]; exact h
  refine ⟨⟨s.nd, s.len, fun i a c h h2 h3 => ?_, fun b u h => ?_, fun i c i0 h => ?_, ?_⟩, ⟨x.same.trans sm, x.pre, x.preη, x.fr, x.dom, fun a u h => ?_, x.nC⟩, sm⟩
  · have i0 : i ≠ 0 := fun e => by
      subst e
      obtain ⟨objs, k, _⟩ := s.obs
      rw [k] at h2; cases h2; cases h3
    rw [upd_ne (fun e => by subst e; exact hm (Mu.mem_l h i0))]; exact s.sep i a c h h2 h3
  · by_cases e : b = p
    · subst e; rw [upd_same] at h; cases h; exact hp
    · rw [upd_ne e] at h; exact s.sub b u h
  · obtain ⟨a, u, h1, h2, h3⟩ := s.cell0 i c i0 h
    exact ⟨a, u, h1, h2, h3.same sm⟩
  · obtain ⟨objs, k1, k2, k3⟩ := s.obs
    refine ⟨objs, k1, k2, fun j y e => ?_⟩
    obtain ⟨a, u, q1, q2, q3, q4⟩ := k3 j y e
    exact ⟨a, u, q1, by rw [upd_ne (fun e => by subst e; exact hm (Mu.mem_η q1))]; exact q2, q3, q4.same sm⟩
  · by_cases e : a = p
    · subst e; exact .inr (.inl h0)
    · rw [upd_ne e] at h; exact x.nF a u h
/-- a new object, held by nobody, becomes a cell -/
theorem SR.celled {H0 : Hp} (s : SR K μ1 F1 H1 st) (x : Ext μ F H0 μ1 F1 H1) {p : Addr} {o : HO} {c : Cl} (h0 : H0 p = none) (hp : H1 p = some o) (hF : F1 p = none) (hm : p ∉ μ1) (hc : ClOk K F1 p c o) :
    SR K (μ1.push p) F1 H1 (st ++ [c]) ∧ Ext μ F H0 (μ1.push p) F1 H1 := by
  have hpos := s.pos
  have hne : μ1.l ≠ [] := fun e => by have := s.len; rw [e] at this; simp at this; omega
  have ht : (μ1.l ++ [p]).tail = μ1.l.tail ++ [p] := List.tail_append_of_ne_nil hne
  refine ⟨⟨?_, by simp [s.len], fun i a d h h2 h3 => ?_, s.sub, fun i d i0 h => ?_, ?_⟩, ⟨x.same, ?_, x.preη, x.fr, x.dom, x.nF, fun a h => ?_⟩⟩
  · show ((μ1.l ++ [p]).tail ++ μ1.η).Nodup
    obtain ⟨n1, n2, n3⟩ := List.nodup_append.mp s.nd
    rw [ht, List.nodup_append]
    refine ⟨?_, n2, fun a ha b hb e => ?_⟩
    · rw [List.nodup_append]
      refine ⟨n1, by simp, fun a ha b hb e => ?_⟩
      rw [List.mem_singleton] at hb
      subst hb; subst e
      exact hm (.inl ha)
    · subst e
      rcases List.mem_append.mp ha with ha | ha
      · exact n3 a ha a hb rfl
      · rw [List.mem_singleton.mp ha] at hb; exact hm (.inr hb)
  · have h : (μ1.l ++ [p])[i]? = some a := h
    by_cases hi : i < st.length
    · rw [List.getElem?_append_left (by rw [s.len]; exact hi)] at h
      rw [List.getElem?_append_left hi] at h2
      exact s.sep i a d h h2 h3
    · have e : i = st.length := by
        have := (List.getElem?_eq_some_iff.mp h2).1
        simp at this; omega
      subst e
      rw [← s.len] at h
      simp at h
      subst h
      exact hF
  · show ∃ a o, (μ1.l ++ [p])[i]? = some a ∧ _
    by_cases hi : i < st.length
    · rw [List.getElem?_append_left hi] at h
      obtain ⟨a, u, h1, h2, h3⟩ := s.cell0 i d i0 h
      exact ⟨a, u, by rw [List.getElem?_append_left (by rw [s.len]; exact hi)]; exact h1, h2, h3⟩
    · have e : i = st.length := by
        have := (List.getElem?_eq_some_iff.mp h).1
        simp at this; omega
      subst e
      simp at h
      subst h
      exact ⟨p, o, by rw [← s.len]; simp, hp, .inr hc⟩
  · obtain ⟨objs, k1, k2, k3⟩ := s.obs
    exact ⟨objs, by rw [List.getElem?_append_left hpos]; exact k1, k2, k3⟩
  · obtain ⟨r, e⟩ := x.pre
    exact ⟨r ++ [p], by show μ1.l ++ [p] = _; rw [e, List.append_assoc]⟩
  · rcases h with h | h
    · have h : a ∈ (μ1.l ++ [p]).tail := h
      rw [ht] at h
      rcases List.mem_append.mp h with h | h
      · exact x.nC a (.inl h)
      · rw [List.mem_singleton.mp h]; exact .inr h0
    · exact x.nC a (.inr h)
/-- a cell is written -/
theorem SR.write (s : SR K μ F H st) {i : Nat} {p : Addr} {o : HO} {c : Cl} (hi : μ.l[i]? = some p) (hc : ClOk K F p c o) {c0 : Cl} (h0 : st[i]? = some c0) (hz : isGone c0 = false := by rfl) : SR K μ F (upd H p o) (st.set i c) ∧ Ext μ F H μ F (upd H p o) := by
  have i0 := s.ne0 h0 hz
  have hm : p ∈ μ := s.mem hi h0 hz
  have hil : i < μ.l.length := (List.getElem?_eq_some_iff.mp hi).1
  have hF := s.sep i p c0 hi h0 (notDead hz)
  refine ⟨⟨s.nd, by simp [s.len], fun j a d h h2 h3 => ?_, fun b u h => ?_, fun j d j0 h => ?_, ?_⟩, ⟨Same.refl F, ⟨[], by simp⟩, ⟨[], by simp⟩, fun b u h n => ?_, fun b h => ?_, fun _ _ h => .inl h, fun _ h => .inl h⟩⟩
  · by_cases e : j = i
    · subst e
      rw [hi] at h; cases h
      exact hF
    · rw [List.getElem?_set_ne (Ne.symm e)] at h2
      exact s.sep j a d h h2 h3
  · rw [upd_ne (fun e => by subst e; rw [hF] at h; cases h)]; exact s.sub b u h
  · by_cases e : j = i
    · subst e
      rw [List.getElem?_set_self (by rw [← s.len]; exact hil)] at h
      cases h
      exact ⟨p, o, hi, upd_same, .inr hc⟩
    · rw [List.getElem?_set_ne (Ne.symm e)] at h
      obtain ⟨a, u, h1, h2, h3⟩ := s.cell0 j d j0 h
      refine ⟨a, u, h1, ?_, h3⟩
      rw [upd_ne (fun z => ?_)]; exact h2
      subst z
      exact e (s.one h1 hi j0 i0)
  · obtain ⟨objs, k1, k2, k3⟩ := s.obs
    refine ⟨objs, by rw [List.getElem?_set_ne i0]; exact k1, k2, fun j y e => ?_⟩
    obtain ⟨a, u, q1, q2, q3, q4⟩ := k3 j y e
    exact ⟨a, u, q1, q2, by rw [upd_ne (Ne.symm (s.apart hi q1 i0))]; exact q3, q4⟩
  · rw [upd_ne (fun z => by subst z; exact n hm)]; exact h
  · by_cases e : b = p
    · subst e; rw [upd_same] at h; cases h
    · rw [upd_ne e] at h; exact h
/-- the newest cells are forgotten -/
theorem SR.cut (s : SR K μ1 F1 H1 st) (x : Ext μ F H μ1 F1 H1) (n : Nat) (hn : μ.l.length = n) (hp : 0 < n) : SR K (μ1.take n) F1 H1 (st.take n) ∧ Ext μ F H (μ1.take n) F1 H1 ∧ μ.l = μ1.l.take n := by
  obtain ⟨r, e⟩ := x.pre
  have e2 : μ.l = μ1.l.take n := by rw [e, ← hn]; simp
  have hsub : ∀ a, a ∈ (μ1.l.take n).tail → a ∈ μ1.l.tail := fun a h => by
    obtain ⟨i, hi, q⟩ := List.getElem_of_mem h
    have q2 : (μ1.l.take n).tail[i]? = some a := by rw [List.getElem?_eq_getElem hi, q]
    rw [List.getElem?_tail, List.getElem?_take_of_lt (by rw [List.length_tail, List.length_take] at hi; omega), ← List.getElem?_tail] at q2
    exact List.mem_of_getElem? q2
  have nd : ((μ1.l.take n).tail ++ μ1.η).Nodup := by
    obtain ⟨n1, n2, n3⟩ := List.nodup_append.mp s.nd
    rw [List.nodup_append]
    refine ⟨?_, n2, fun a ha b hb => n3 a (hsub a ha) b hb⟩
    have hs : (μ1.l.take n).tail.Sublist μ1.l.tail := by
      cases μ1.l with
      | nil => simp
      | cons y ys =>
        cases n with
        | zero => omega
        | succ n => exact List.take_sublist n ys
    exact hs.nodup n1
  have hl := s.len
  have hl1 : μ1.l.length = μ.l.length + r.length := by rw [e, List.length_append]
  refine ⟨⟨nd, ?_, fun i a c h h2 h3 => ?_, s.sub, fun i c i0 h => ?_, ?_⟩, ⟨x.same, ⟨[], by rw [List.append_nil]; exact e2.symm⟩, x.preη, x.fr, x.dom, x.nF, fun a h => ?_⟩, e2⟩
  · show (μ1.l.take n).length = _
    rw [List.length_take, List.length_take]; omega
  · have h : (μ1.l.take n)[i]? = some a := h
    have hi : i < n := by
      have := (List.getElem?_eq_some_iff.mp h2).1
      rw [List.length_take] at this
      omega
    rw [List.getElem?_take_of_lt hi] at h2
    rw [List.getElem?_take_of_lt hi] at h
    exact s.sep i a c h h2 h3
  · have hi : i < n := by
      have := (List.getElem?_eq_some_iff.mp h).1
      rw [List.length_take] at this
      omega
    rw [List.getElem?_take_of_lt hi] at h
    obtain ⟨a, u, h1, h2, h3⟩ := s.cell0 i c i0 h
    exact ⟨a, u, by show (μ1.l.take n)[i]? = _; rw [List.getElem?_take_of_lt hi]; exact h1, h2, h3⟩
  · obtain ⟨objs, k1, k2, k3⟩ := s.obs
    exact ⟨objs, by rw [List.getElem?_take_of_lt hp]; exact k1, k2, k3⟩
  · rcases h with h | h
    · exact x.nC a (.inl (hsub a h))
    · exact x.nC a (.inr h)
/-- a new object of the heap cell -/
theorem SR.alloc {H0 : Hp} (s : SR K μ1 F1 H1 st) (x : Ext μ F H0 μ1 F1 H1) {p : Addr} {o : HO} {y : Ho} {objs : List Ho} (hst : st[0]? = some (heapC objs)) (h0 : H0 p = none) (hp : H1 p = some o) (hF : F1 p = none) (hm : p ∉ μ1) (hc : HoOk K F1 (μ1.η ++ [p]) p y o) :
    SR K (μ1.obj p) F1 H1 (st.set 0 (heapC (objs ++ [y]))) ∧ Ext μ F H0 (μ1.obj p) F1 H1 ∧ (μ1.obj p).η[objs.length]? = some p := by
  have hpos := s.pos
  obtain ⟨objs', k1, k2, k3⟩ := s.obs
  rw [hst] at k1
  obtain rfl := heapC_inj (Option.some.inj k1)
  refine ⟨⟨?_, by simp [s.len], fun i a d h h2 h3 => ?_, s.sub, fun i d i0 h => ?_, ?_⟩, ⟨x.same, x.pre, ?_, x.fr, x.dom, x.nF, fun a h => ?_⟩, ?_⟩
  · show (μ1.l.tail ++ (μ1.η ++ [p])).Nodup
    rw [← List.append_assoc, List.nodup_append]
    refine ⟨s.nd, by simp, fun a ha b hb e => ?_⟩
    rw [List.mem_singleton] at hb
    subst hb; subst e
    rcases List.mem_append.mp ha with ha | ha
    · exact hm (.inl ha)
    · exact hm (.inr ha)
  · by_cases e : i = 0
    · subst e
      rw [List.getElem?_set_self hpos] at h2
      cases h2; cases h3
    · rw [List.getElem?_set_ne (Ne.symm e)] at h2
      exact s.sep i a d h h2 h3
  · rw [List.getElem?_set_ne (Ne.symm i0)] at h
    exact s.cell0 i d i0 h
  · refine ⟨objs ++ [y], by rw [List.getElem?_set_self hpos], by simp [k2], fun j z e => ?_⟩
    show ∃ a o, (μ1.η ++ [p])[j]? = some a ∧ F1 a = none ∧ H1 a = some o ∧ HoOk K F1 (μ1.η ++ [p]) a z o
    by_cases hj : j < objs.length
    · rw [List.getElem?_append_left hj] at e
      obtain ⟨a, u, q1, q2, q3, q4⟩ := k3 j z e
      exact ⟨a, u, by rw [List.getElem?_append_left (by rw [← k2]; exact hj)]; exact q1, q2, q3, q4.later (Same.refl _) _⟩
    · have e' : j = objs.length := by
        have := (List.getElem?_eq_some_iff.mp e).1
        simp at this; omega
      subst e'
      simp at e
      subst e
      exact ⟨p, o, by rw [k2]; simp, hF, hp, hc⟩
  · obtain ⟨r, e⟩ := x.preη
    exact ⟨r ++ [p], by show μ1.η ++ [p] = _; rw [e, List.append_assoc]⟩
  · rcases h with h | h
    · exact x.nC a (.inl h)
    · rcases List.mem_append.mp (show a ∈ μ1.η ++ [p] from h) with h | h
      · exact x.nC a (.inr h)
      · rw [List.mem_singleton.mp h]; exact .inr h0
  · show (μ1.η ++ [p])[objs.length]? = some p
    rw [k2]; simp
/-- an object of the heap cell is written -/
theorem SR.owrite (s : SR K μ F H st) {j : Nat} {p : Addr} {o : HO} {y : Ho} {objs : List Ho} (hst : st[0]? = some (heapC objs)) (hj : μ.η[j]? = some p) (hc : HoOk K F μ.η p y o) :
    SR K μ F (upd H p o) (st.set 0 (heapC (objs.set j y))) ∧ Ext μ F H μ F (upd H p o) := by
  have hpos := s.pos
  have hm : p ∈ μ := Mu.mem_η hj
  obtain ⟨objs', k1, k2, k3⟩ := s.obs
  rw [hst] at k1
  obtain rfl := heapC_inj (Option.some.inj k1)
  have hjl : j < objs.length := by rw [k2]; exact (List.getElem?_eq_some_iff.mp hj).1
  have hF : F p = none := by
    obtain ⟨a, u, q1, q2, _⟩ := k3 j objs[j] (by simp [hjl])
    rw [hj] at q1; cases q1; exact q2
  refine ⟨⟨s.nd, by simp [s.len], fun i a d h h2 h3 => ?_, fun b u h => ?_, fun i d i0 h => ?_, ?_⟩, ⟨Same.refl F, ⟨[], by simp⟩, ⟨[], by simp⟩, fun b u h n => ?_, fun b h => ?_, fun _ _ h => .inl h, fun _ h => .inl h⟩⟩
  · by_cases e : i = 0
    · subst e
      rw [List.getElem?_set_self hpos] at h2
      cases h2; cases h3
    · rw [List.getElem?_set_ne (Ne.symm e)] at h2
      exact s.sep i a d h h2 h3
  · rw [upd_ne (fun e => by subst e; rw [hF] at h; cases h)]; exact s.sub b u h
  · rw [List.getElem?_set_ne (Ne.symm i0)] at h
    obtain ⟨a, u, h1, h2, h3⟩ := s.cell0 i d i0 h
    exact ⟨a, u, h1, by rw [upd_ne (s.apart h1 hj i0)]; exact h2, h3⟩
  · refine ⟨objs.set j y, by rw [List.getElem?_set_self hpos], by simp [k2], fun i z e => ?_⟩
    by_cases q : i = j
    · subst q
      rw [List.getElem?_set_self hjl] at e
      cases e
      exact ⟨p, o, hj, hF, upd_same, hc⟩
    · rw [List.getElem?_set_ne (Ne.symm q)] at e
      obtain ⟨a, u, q1, q2, q3, q4⟩ := k3 i z e
      exact ⟨a, u, q1, q2, by rw [upd_ne (fun z => by subst z; exact q (s.oneη q1 hj))]; exact q3, q4⟩
  · rw [upd_ne (fun z => by subst z; exact n hm)]; exact h
  · by_cases e : b = p
    · subst e; rw [upd_same] at h; cases h
    · rw [upd_ne e] at h; exact h
end
/-! ### what a meaning wants -/
structure Out (K : Kw) (μ : Mu) (F H : Hp) (st : Sto) (r : Rv) (v : V) (μ' : Mu) (F' H' : Hp) : Prop where
  ext : Ext μ F H μ' F' H'
  sr : SR K μ' F' H' st
  rok : Rok K F' μ' H' r v
  new : ∀ c, r = .n c → ∃ a, v = .ref a ∧ H a = none
/-- an error of the program's own as the hand layer tells it -/
def ErOk (K : Kw) (mg : Str → Option Value) (F H : Hp) (e : Er) (cls : Value) (dd : Option Addr) : Prop :=
  cls = .ref (He.ga K e.cls) ∧ ErD K F e.arg dd
/-- how a thing that came may end; what is wished of an error may hang on the slots at its raising -/
structure Cn where
  K : Kw
  mg : Str → Option Value
  W : WX
  σ : St
abbrev Cn.E (C : Cn) : XK := fun cls d H => C.W cls d C.σ H
abbrev Cn.at (C : Cn) (σ : St) : Cn := { C with σ := σ }
abbrev Cn.ofE (K : Kw) (mg : Str → Option Value) (E : XK) : Cn := ⟨K, mg, fun cls d _ H => E cls d H, []⟩
/-- the slots do not matter -/
def Cn.Flat (C : Cn) : Prop := ∀ cls d σ σ' H, C.W cls d σ H → C.W cls d σ' H
def Erw (C : Cn) (μ : Mu) (F H : Hp) (e : Er) (st : Sto) : Prop := ∀ cls dd μ' F' H', Ext μ F H μ' F' H' → SR C.K μ' F' H' st → ErOk C.K C.mg F' H' e cls dd → C.E cls dd H'
def Post {β : Type} (C : Cn) (G : β → Sto → Mu → Hp → Hp → Prop) (μ : Mu) (F H : Hp) : Res β → Prop
  | .ok r st => G r st μ F H
  | .er e st => Erw C μ F H e st
  | .no => False
abbrev gE (C : Cn) (Q : VK) : Rv → Sto → Mu → Hp → Hp → Prop := fun r st μ F H => ∀ v μ' F' H', Out C.K μ F H st r v μ' F' H' → Q v H'
abbrev gV (C : Cn) (Q : VK) : Vl → Sto → Mu → Hp → Hp → Prop := fun r st μ F H => ∀ v μ' F' H', Ext μ F H μ' F' H' → SR C.K μ' F' H' st → Vok C.K F' μ' r v → Q v H'
abbrev gB (C : Cn) (Q : Bool → Hp → Prop) : Bool → Sto → Mu → Hp → Hp → Prop := fun b st μ F H => ∀ μ' F' H', Ext μ F H μ' F' H' → SR C.K μ' F' H' st → Q b H'
abbrev PostE (C : Cn) (Q : VK) := Post C (gE C Q)
abbrev PostV (C : Cn) (Q : VK) := Post C (gV C Q)
abbrev PostB (C : Cn) (Q : Bool → Hp → Prop) := Post C (gB C Q)
inductive VokAll (K : Kw) (F : Hp) (μ : Mu) : List Vl → List V → Prop
  | nil : VokAll K F μ [] []
  | cons {x : Vl} {v : V} {xs : List Vl} {vs : List V} : Vok K F μ x v → VokAll K F μ xs vs → VokAll K F μ (x :: xs) (v :: vs)
abbrev gA (C : Cn) (Q : List V → Hp → Prop) : List Vl → Sto → Mu → Hp → Hp → Prop := fun xs st μ F H => ∀ vs μ' F' H', Ext μ F H μ' F' H' → SR C.K μ' F' H' st → VokAll C.K F' μ' xs vs → Q vs H'
abbrev PostA (C : Cn) (Q : List V → Hp → Prop) := Post C (gA C Q)
def At (C : Cn) (σ : St) (H : Hp) (P : En → Sto → Mu → Hp → Prop) : Prop := ∃ ρ st μ F, Eok C.K F μ ρ σ ∧ SR C.K μ F H st ∧ P ρ st μ F
def tM (C : Cn) (m : Ev) : TE := fun σ H Q => At C σ H fun ρ st μ F => PostE (C.at σ) Q μ F H (m ρ st)
def tV (C : Cn) (m : En → Sto → Res Vl) : TE := fun σ H Q => At C σ H fun ρ st μ F => PostV (C.at σ) Q μ F H (m ρ st)
def tT (C : Cn) (m : En → Sto → Res Bool) : TT := fun σ H Q => At C σ H fun ρ st μ F => PostB (C.at σ) Q μ F H (m ρ st)
def tAs (C : Cn) (m : En → Sto → Res (List Vl)) : TA := fun σ H Q => At C σ H fun ρ st μ F => PostA (C.at σ) Q μ F H (m ρ st)
section
variable {C : Cn} {μ μ1 : Mu} {F H F1 H1 : Hp} {st : Sto}
theorem Erw.later {e : Er} (x : Ext μ F H μ1 F1 H1) (h : Erw C μ F H e st) : Erw C μ1 F1 H1 e st := fun cls dd μ' F' H' y s o => h cls dd μ' F' H' (x.trans y) s o
/-- what holds from a state holds from a later one -/
structure Lat {β : Type} (G : β → Sto → Mu → Hp → Hp → Prop) : Prop where
  it : ∀ {r st μ F H μ1 F1 H1}, Ext μ F H μ1 F1 H1 → G r st μ F H → G r st μ1 F1 H1
theorem gE_lat {Q : VK} : Lat (gE C Q) := ⟨fun x h v μ' F' H' o => h v μ' F' H' ⟨x.trans o.ext, o.sr, o.rok, fun c e => let ⟨a, h1, h2⟩ := o.new c e; ⟨a, h1, x.dom a h2⟩⟩⟩
theorem gB_lat {Q : Bool → Hp → Prop} : Lat (gB C Q) := ⟨fun x h μ' F' H' y s => h μ' F' H' (x.trans y) s⟩
theorem gA_lat {Q : List V → Hp → Prop} : Lat (gA C Q) := ⟨fun x h v μ' F' H' y s o => h v μ' F' H' (x.trans y) s o⟩
theorem Post.later {β : Type} {G : β → Sto → Mu → Hp → Hp → Prop} (g : Lat G) {r : Res β} (x : Ext μ F H μ1 F1 H1) (h : Post C G μ F H r) : Post C G μ1 F1 H1 r := by
  cases r with
  | ok r st => exact g.it x h
  | er e st => exact Erw.later x h
  | no => exact h
/-- one step, then the rest: what came first is data or a cell -/
theorem Post.bindV {β : Type} {G : β → Sto → Mu → Hp → Hp → Prop} (g : Lat G) {m : Res Vl} {k : Vl → Sto → Res β} {Q : VK} (h : Post C G μ F H (m.bind k))
    (hk : ∀ x s v μ1 F1 H1, Ext μ F H μ1 F1 H1 → SR C.K μ1 F1 H1 s → Vok C.K F1 μ1 x v → Post C G μ1 F1 H1 (k x s) → Q v H1) : PostV C Q μ F H m := by
  cases m with
  | ok x s => exact fun v μ1 F1 H1 e s1 o => hk x s v μ1 F1 H1 e s1 o (Post.later g e h)
  | er e s => exact h
  | no => exact h
theorem Post.bindB {β : Type} {G : β → Sto → Mu → Hp → Hp → Prop} (g : Lat G) {m : Res Bool} {k : Bool → Sto → Res β} {Q : Bool → Hp → Prop} (h : Post C G μ F H (m.bind k))
    (hk : ∀ x s μ1 F1 H1, Ext μ F H μ1 F1 H1 → SR C.K μ1 F1 H1 s → Post C G μ1 F1 H1 (k x s) → Q x H1) : PostB C Q μ F H m := by
  cases m with
  | ok x s => exact fun μ1 F1 H1 e s1 => hk x s μ1 F1 H1 e s1 (Post.later g e h)
  | er e s => exact h
  | no => exact h
theorem Post.bindA {β : Type} {G : β → Sto → Mu → Hp → Hp → Prop} (g : Lat G) {m : Res (List Vl)} {k : List Vl → Sto → Res β} {Q : List V → Hp → Prop} (h : Post C G μ F H (m.bind k))
    (hk : ∀ x s v μ1 F1 H1, Ext μ F H μ1 F1 H1 → SR C.K μ1 F1 H1 s → VokAll C.K F1 μ1 x v → Post C G μ1 F1 H1 (k x s) → Q v H1) : PostA C Q μ F H m := by
  cases m with
  | ok x s => exact fun v μ1 F1 H1 e s1 o => hk x s v μ1 F1 H1 e s1 o (Post.later g e h)
  | er e s => exact h
  | no => exact h
theorem VokAll.ext (a : Ext μ F H μ1 F1 H1) : ∀ {xs : List Vl} {vs : List V}, VokAll C.K F μ xs vs → VokAll C.K F1 μ1 xs vs
  | _, _, .nil => .nil
  | _, _, .cons h r => .cons (h.ext a) (VokAll.ext a r)
end
/-! ### data out of what came -/
/-- a new object handed on: data, unless it is to be a cell -/
def frz : Rv → Vl
  | .d x => .d x
  | .c i => .c i
  | .s ns => .s ns
  | .o x => .o x
  | .n (.l xs) => .d (.list xs)
  | .n (.m kvs) => .d (.dict kvs)
def mV (m : Ev) : En → Sto → Res Vl := fun ρ st => (m ρ st).bind fun r s => .ok (frz r) s
/-- .. a cell -/
def mVc (m : Ev) : En → Sto → Res Vl := fun ρ st => (m ρ st).bind fun r s => match r with
  | .n c => .ok (.c s.length) (s ++ [c])
  | r => .ok (frz r) s
section
variable {X : Cx} {C : Cn} {e : Expr} {m : Ev}
theorem _root_.L2.PE.imp {t t' : TE} (h : PE X e t) (w : ∀ σ H Q, t' σ H Q → t σ H Q) : PE X e t' := ⟨fun pins s σ H Q I h' => h.run pins s σ H Q I (w σ H Q h')⟩
theorem frz_out {K : Kw} {μ μ' : Mu} {F H F' H' : Hp} {st st' : Sto} {r : Rv} {v : V} (s : SR K μ F H st) (o : Out K μ F H st' r v μ' F' H') : ∃ F2, Ext μ F H μ' F2 H' ∧ SR K μ' F2 H' st' ∧ Vok K F2 μ' (frz r) v := by
  obtain ⟨ext, sr, rok, new⟩ := o
  cases r with
  | d x => exact ⟨F', ext, sr, rok⟩
  | c i => exact ⟨F', ext, sr, rok⟩
  | s ns => exact ⟨F', ext, sr, rok⟩
  | o x => exact ⟨F', ext, sr, rok⟩
  | n c =>
    obtain ⟨a, o, rfl, h2, h3, h4, h5⟩ := rok
    obtain ⟨a', e1, h0⟩ := new c rfl
    cases e1
    obtain ⟨s2, x2, sm⟩ := sr.freeze ext s.sub h0 h2 h4 h5
    refine ⟨_, x2, s2, ?_⟩
    cases c with
    | l ds =>
      obtain ⟨xs, rfl, q⟩ := h3
      exact .lst upd_same (q.same sm)
    | m kvs =>
      exact (DcOk.same sm h3).dq upd_same
theorem pv_frz (h : PE X e (tM C m)) : PE X e (tV C (mV m)) := h.imp fun σ H Q ⟨ρ, st, μ, F, h1, h2, h3⟩ => ⟨ρ, st, μ, F, h1, h2, by
  show PostE (C.at σ) Q μ F H (m ρ st)
  cases e : m ρ st with
  | ok r st' =>
    simp only [mV, e] at h3
    intro v μ' F' H' o
    obtain ⟨F2, x2, s2, k⟩ := frz_out h2 o
    exact h3 v μ' F2 H' x2 s2 k
  | er e2 st' => simp only [mV, e] at h3; exact h3
  | no => simp only [mV, e] at h3; exact h3⟩
theorem pv_cell (h : PE X e (tM C m)) : PE X e (tV C (mVc m)) := h.imp fun σ H Q ⟨ρ, st, μ, F, h1, h2, h3⟩ => ⟨ρ, st, μ, F, h1, h2, by
  show PostE (C.at σ) Q μ F H (m ρ st)
  cases e : m ρ st with
  | ok r st' =>
    simp only [mVc, e] at h3
    intro v μ' F' H' o
    cases r with
    | d x => exact h3 v μ' F' H' o.ext o.sr o.rok
    | c x => exact h3 v μ' F' H' o.ext o.sr o.rok
    | s x => exact h3 v μ' F' H' o.ext o.sr o.rok
    | o x => exact h3 v μ' F' H' o.ext o.sr o.rok
    | n c =>
      obtain ⟨ext, sr, ⟨a, o, rfl, g2, g3, g4, g5⟩, new⟩ := o
      obtain ⟨a', e1, h0⟩ := new c rfl
      cases e1
      obtain ⟨s2, x2⟩ := sr.celled ext h0 g2 g4 g5 g3
      exact h3 _ _ _ _ x2 s2 ⟨a, by rw [← sr.len]; simp, rfl⟩
  | er e2 st' => simp only [mVc, e] at h3; exact h3
  | no => simp only [mVc, e] at h3; exact h3⟩
end
/-- .. a cell that nobody will write again becomes data -/
def mVz (m : Ev) : En → Sto → Res Vl := fun ρ st => (m ρ st).bind fun r s => match r with
  | .c k => match s[k]? with
    | some (.l xs) => .ok (.d (.list xs)) (s.set k gone)
    | _ => .no
  | r => .ok (frz r) s
/-! ### the objects of the heap cell -/
def decV : PyData → Fv
  | .tuple [x] => .d x
  | .int j => .ob j.toNat
  | _ => .d .none
def decF : PyData → Str × Fv
  | .tuple [.str p, v] => (p, decV v)
  | _ => ("", .d .none)
def decO : PyData → Ho
  | .tuple [.str cls, .list fs] => .ins cls (fs.map decF)
  | .list xs => .lst (xs.map decV)
  | _ => .lst []
theorem dec_map {α β : Type} {f : α → β} {g : β → α} (h : ∀ x, g (f x) = x) : ∀ xs : List α, (xs.map f).map g = xs
  | [] => rfl
  | x :: xs => by rw [List.map_cons, List.map_cons, h, dec_map h xs]
theorem dec_encV : ∀ x, decV (encV x) = x
  | .d _ => rfl
  | .ob _ => rfl
theorem dec_encF : ∀ x, decF (encF x) = x := fun ⟨p, v⟩ => by
  show (p, decV (encV v)) = _
  rw [dec_encV]
theorem dec_encO : ∀ x, decO (encO x) = x
  | .ins cls fs => by
    show Ho.ins cls ((fs.map encF).map decF) = _
    rw [dec_map dec_encF]
  | .lst xs => by
    show Ho.lst ((xs.map encV).map decV) = _
    rw [dec_map dec_encV]
def objsC : Cl → List Ho
  | .m [_, (.list os, _)] => os.map decO
  | _ => []
def objsOf (st : Sto) : List Ho := match st[0]? with
  | some c => objsC c
  | none => []
@[simp] theorem objsC_heap (objs : List Ho) : objsC (heapC objs) = objs := dec_map dec_encO objs
theorem objsOf_eq {st : Sto} {objs : List Ho} (h : st[0]? = some (heapC objs)) : objsOf st = objs := by
  unfold objsOf
  rw [h]
  exact objsC_heap objs
def fvsD : List Fv → Option (List PyData)
  | [] => some []
  | .d x :: r => (fvsD r).map (x :: ·)
  | .ob _ :: _ => none
theorem fvsD_ok {K : Kw} {F : Hp} {η : List Addr} : ∀ {xs : List Fv} {vs : List V} {ds : List PyData}, FvAll K F η xs vs → fvsD xs = some ds → DqAll K F vs ds
  | _, _, _, .nil, e => by cases e; exact .nil
  | .d x :: xs, _, _, .cons h r, e => by
    unfold fvsD at e
    cases q : fvsD xs with
    | none => rw [q] at e; cases e
    | some ds => rw [q] at e; cases e; exact .cons h (fvsD_ok r q)
  | .ob j :: xs, _, _, .cons h r, e => by unfold fvsD at e; cases e
/-- an object, by its number -/
theorem SR.obj {K : Kw} {μ : Mu} {F H : Hp} {st : Sto} (s : SR K μ F H st) {j : Nat} {x : Ho} (h : (objsOf st)[j]? = some x) : ∃ objs a o, st[0]? = some (heapC objs) ∧ objsOf st = objs ∧ objs[j]? = some x ∧ μ.η[j]? = some a ∧ F a = none ∧ H a = some o ∧ HoOk K F μ.η a x o := by
  obtain ⟨objs, k1, k2, k3⟩ := s.obs
  have e := objsOf_eq k1
  rw [e] at h
  obtain ⟨a, o, q1, q2, q3, q4⟩ := k3 j x h
  exact ⟨objs, a, o, k1, e, h, q1, q2, q3, q4⟩
/-! ### what stands at a value, as data: a cell by its content now -/
def viewO (st : Sto) (j : Nat) : Option PyData := match (objsOf st)[j]? with
  | some (.lst xs) => (fvsD xs).map .list
  | _ => none
def view (st : Sto) : Vl → Option PyData
  | .d x => some x
  | .c i => match st[i]? with
    | some (.l xs) => some (.list xs)
    | some (.m kvs) => if isGone (.m kvs) then none else some (.dict kvs)
    | none => none
  | .s _ => none
  | .o (.ob j) => viewO st j
  | .o (.tp ds) => some (.tuple ds)
  | .o _ => none
/-- the thing itself in the heap, its items among the data -/
def Vw (K : Kw) (F H : Hp) : V → PyData → Prop
  | v, .list ds => ∃ a xs, v = .ref a ∧ H a = some (.lst xs) ∧ DqAll K F xs ds
  | v, .dict kvs => (∃ a o, v = .ref a ∧ H a = some o ∧ DcOk K F a kvs o) ∨ ∃ x r, kvs = (.list [], .str x) :: r ∧ Dq K F v (.dict kvs)
  | v, d => Dq K F v d
section
variable {K : Kw} {μ : Mu} {F H : Hp} {st : Sto}
theorem Vw.of {v : V} {d : PyData} (s : Same F H) (h : Dq K F v d) : Vw K F H v d := by
  cases h with
  | lst h r => exact ⟨_, _, rfl, s _ _ h, r⟩
  | dic h r => exact .inl ⟨_, _, rfl, s _ _ h, .inl ⟨_, rfl, r⟩⟩
  | dig h r n z => exact .inl ⟨_, _, rfl, s _ _ h, .inr ⟨_, ⟨_, rfl⟩, r, n, z⟩⟩
  | ins h g r => exact .inr ⟨_, _, rfl, .ins h g r⟩
  | non => exact .non
  | bl b => exact .bl b
  | int i => exact .int i
  | str x => exact .str x
  | tup h r => exact .tup h r
theorem Vw.dq {v : V} {d : PyData} (s : Same F H) (h : Vw K F H v d) : Dq K H v d := by
  cases d with
  | list ds => obtain ⟨a, xs, rfl, h1, h2⟩ := h; exact .lst h1 (h2.same s)
  | dict ds =>
    rcases h with ⟨a, o, rfl, h1, h2⟩ | ⟨x, r, rfl, h⟩
    · exact (h2.same s).dq h1
    · exact h.same s
  | none => exact Dq.same s h
  | bool b => exact Dq.same s h
  | int i => exact Dq.same s h
  | str x => exact Dq.same s h
  | tuple ds => exact Dq.same s h
theorem view_ok (s : SR K μ F H st) {x : Vl} {v : V} {d : PyData} (h : Vok K F μ x v) (e : view st x = some d) : Vw K F H v d := by
  cases x with
  | d y => cases e; exact Vw.of s.sub h
  | s ns => cases e
  | o x =>
    cases x with
    | ob j =>
      obtain ⟨a, h1, rfl⟩ := h
      have e : viewO st j = some d := e
      unfold viewO at e
      split at e
      · rename_i xs hx
        obtain ⟨objs, a', o, k1, k2, k3, k4, k5, k6, us, rfl, k7⟩ := s.obj hx
        rw [h1] at k4; cases k4
        cases q : fvsD xs with
        | none => rw [q] at e; cases e
        | some ds => rw [q] at e; cases e; exact ⟨_, _, rfl, k6, fvsD_ok k7 q⟩
      · cases e
    | tp ds =>
      cases e
      obtain ⟨a, xs, o, rfl, h1, _, h2⟩ := h
      exact Vw.of s.sub (.tup (.inr ⟨o, h1⟩) h2)
    | _ => cases e
  | c i =>
    obtain ⟨a, h1, rfl⟩ := h
    unfold view at e
    cases q : st[i]? with
    | none => simp only [q] at e; cases e
    | some c =>
      cases c with
      | l xs =>
        obtain ⟨b, o, g1, g2, g3⟩ := s.cell i _ q
        rw [h1] at g1; cases g1
        simp only [q] at e; cases e
        obtain ⟨vs, rfl, r⟩ := g3
        exact ⟨_, _, rfl, g2, r⟩
      | m xs =>
        simp only [q] at e
        cases hz : isGone (.m xs) with
        | true => rw [hz] at e; cases e
        | false =>
          rw [hz] at e
          cases e
          obtain ⟨b, o, g1, g2, g3⟩ := s.cell i _ q hz
          rw [h1] at g1; cases g1
          exact .inl ⟨_, _, rfl, g2, g3⟩
/-- keys that are ints and texts -/
def flK (kvs : List (PyData × PyData)) : Bool := kvs.all fun p => match p.1 with
  | .int _ => true
  | .str _ => true
  | _ => false
theorem DcOk.flat {a : Addr} {kvs : List (PyData × PyData)} {o : HO} (h : DcOk K F a kvs o) (f : flK kvs = true) : ∃ ws, o = .dK ws ∧ DqKv K F ws kvs := by
  rcases h with h | ⟨es, h1, h2, h3, h4⟩
  · exact h
  · cases h2 with
    | nil => exact absurd rfl h4
    | cons g _ _ _ _ =>
      unfold flK at f
      rw [List.all_cons, Bool.and_eq_true] at f
      cases g <;> exact absurd f.1 Bool.false_ne_true
theorem Vw.flat_dict {v : V} {kvs : List (PyData × PyData)} (h : Vw K F H v (.dict kvs)) (f : flK kvs = true) : ∃ a ws, v = .ref a ∧ H a = some (.dK ws) ∧ DqKv K F ws kvs := by
  rcases h with ⟨a, o, rfl, h1, h2⟩ | ⟨x, r, rfl, h⟩
  · obtain ⟨ws, rfl, h3⟩ := h2.flat f
    exact ⟨a, ws, rfl, h1, h3⟩
  · cases f
end
end Cp
/-! Ch: the head's facts as Bool functions of the written part; facts of own error classes. -/
namespace Cp
open PySem PySem.Spec PyProof.Rows L2
abbrev Fb : Type := PySem.W.Frag → Bool
def obsX (fb : List Fb) (fn : List He.DefD) (K : PySem.W.Frag) : He.AlD := ((fb.all fun f => f K) && fn.all fun d => d.ok K, fn.map fun d => He.fnW K d.at_)
def SaysX (fb : List Fb) (fn : List He.DefD) (K : PySem.W.Frag) : Prop := obsX fb fn K = He.valD fn
section
variable {fb : List Fb} {fn : List He.DefD} {K : PySem.W.Frag}
theorem SaysX.fact (c : SaysX fb fn K) (i : Nat) {f : Fb} (h : fb[i]? = some f := by rfl) : f K = true := by
  have c1 := (He.ba (show ((fb.all fun f => f K) && fn.all fun d => d.ok K) = true from congrArg (fun z : He.AlD => z.1) c)).1
  exact List.all_eq_true.mp c1 f (List.mem_of_getElem? h)
theorem SaysX.def_ (c : SaysX fb fn K) (i : Nat) {d : He.DefD} (h : fn[i]? = some d := by rfl) : ∃ fd, FunD K d.name d.qual d.params d.body d.scope (d.dvs K) (d.kws K) (He.fAd K d.at_) fd := by
  have c2 := (He.ba (show ((fb.all fun f => f K) && fn.all fun d => d.ok K) = true from congrArg (fun z : He.AlD => z.1) c)).2
  have e : fn.map (fun d => He.fnW K d.at_) = fn.map He.DefD.val := congrArg (fun z : He.AlD => z.2) c
  have e2 : (fn.map fun d => He.fnW K d.at_)[i]? = (fn.map He.DefD.val)[i]? := by rw [e]
  rw [List.getElem?_map, List.getElem?_map, h] at e2
  exact He.DefD.funD (Option.some.inj e2) (List.all_eq_true.mp c2 d (List.mem_of_getElem? h))
end
/-! ### own error classes -/
/-! ### a class whose __init__ keeps one field -/
end Cp
/-! Cp1: expressions. -/
namespace Cp
open PySem L2
section
variable {X : Cx} {C : Cn} {Q : VK} {μ : Mu} {F H : Hp} {st : Sto} {e a b c : Expr} {m ma mb mc : Ev} {pos : Pos}
/-! ### how a rule's wish is met -/
theorem fin_d {x : PyData} {v : V} (s : SR C.K μ F H st) (h : PostE C Q μ F H (.ok (.d x) st)) (hv : Dq C.K F v x) : Q v H := h v μ F H ⟨Ext.refl, s, hv, fun _ e => nomatch e⟩
theorem fin_n {c : Cl} {p : Addr} {o : HO} (s : SR C.K μ F H st) (h : PostE C Q μ F H (.ok (.n c) st)) (hp : H p = none) (hc : ClOk C.K F p c o) : Q (.ref p) (upd H p o) :=
  let ⟨s1, x1⟩ := s.newly hp
  h _ μ F _ ⟨x1, s1, ⟨p, o, rfl, upd_same, hc, (s.dead hp).1, (s.dead hp).2⟩, fun _ _ => ⟨p, rfl, hp⟩⟩
theorem fin_t {ds : List PyData} {p : Addr} {xs : List V} (s : SR C.K μ F H st) (h : PostE C Q μ F H (.ok (.d (.tuple ds)) st)) (hp : H p = none) (hx : DqAll C.K F xs ds) : Q (.ref p) (upd H p (.tup xs)) := by
  obtain ⟨s1, x1⟩ := s.newly (o := .tup xs) hp
  obtain ⟨s2, x2, sm⟩ := s1.freeze x1 s.sub hp upd_same (s.dead hp).1 (s.dead hp).2
  exact h _ μ _ _ ⟨x2, s2, .tup (.inl upd_same) (hx.same sm), fun _ e => nomatch e⟩
/-! ### names, constants -/
def Rv.of : Vl → Rv
  | .d x => .d x
  | .c i => .c i
  | .s ns => .s ns
  | .o x => .o x
def mN (i : Nat) : Ev := fun ρ st => match ρ[i]? with
  | some (some x) => .ok (Rv.of x) st
  | _ => .no
def mK (x : PyData) : Ev := fun _ st => .ok (.d x) st
theorem s_name {i : Nat} (h : PE X e (tVar i)) : PE X e (tM C (mN i)) := h.imp fun σ H Q ⟨ρ, st, μ, F, h1, h2, h3⟩ => by
  unfold mN at h3
  cases q : ρ[i]? with
  | none => simp only [q] at h3; exact False.elim h3
  | some o =>
    cases o with
    | none => simp only [q] at h3; exact False.elim h3
    | some x =>
      simp only [q] at h3
      obtain ⟨v, e1, k⟩ := h1.2 i x q
      refine ⟨v, e1, h3 v μ F H ⟨Ext.refl, h2, ?_, fun c z => by cases x <;> cases z⟩⟩
      cases x <;> exact k
theorem s_const {x : PyData} {v : V} (h : PE X e (tC v)) (hd : ∀ F, Dq C.K F v x) : PE X e (tM C (mK x)) := h.imp fun σ H Q ⟨ρ, st, μ, F, h1, h2, h3⟩ => fin_d h2 h3 (hd F)
theorem s_int {i : Int} {j} : PE X (.Constant (.int i) j pos) (tM C (mK (.int i))) := s_const pe_int fun _ => .int i
theorem s_bool {i : Bool} {j} : PE X (.Constant (.bool i) j pos) (tM C (mK (.bool i))) := s_const pe_bl fun _ => .bl i
theorem s_none {j} : PE X (.Constant .none j pos) (tM C (mK .none)) := s_const pe_non fun _ => .non
theorem s_str {x : Str} {j} : PE X (.Constant (.str x) j pos) (tM C (mK (.str x))) := s_const pe_str fun _ => .str x
/-! ### operators of two values -/
def view2 (f : PyData → PyData → Option Rv) (s : Sto) (x y : Vl) : Res Rv := match view s x, view s y with
  | some a, some b => match f a b with
    | some r => .ok r s
    | none => .no
  | _, _ => .no
def mBin (f : PyData → PyData → Option Rv) (ma mb : Ev) : Ev := fun ρ st => (mV ma ρ st).bind fun x s1 => (mV mb ρ s1).bind fun y s2 => view2 f s2 x y
def BinOk (C : Cn) (r : R2) (f : PyData → PyData → Option Rv) : Prop :=
  ∀ (a b : PyData) (res : Rv) (v u : V) (μ : Mu) (F H : Hp) (st : Sto) (Q : VK), SR C.K μ F H st → Vw C.K F H v a → Vw C.K F H u b → f a b = some res → PostE C Q μ F H (.ok res st) → r v u H Q
theorem s_two {r : R2} {f : PyData → PyData → Option Rv} (h : PE X e (tOp r (tV C (mV ma)) (tV C (mV mb)))) (ok : BinOk C r f) : PE X e (tM C (mBin f ma mb)) :=
  h.imp fun σ H Q ⟨ρ, st, μ, F, h1, h2, h3⟩ => ⟨ρ, st, μ, F, h1, h2, Post.bindV gE_lat h3 fun x s v μ1 F1 H1 x1 r1 k1 h4 =>
    ⟨ρ, s, μ1, F1, h1.ext x1, r1, Post.bindV gE_lat h4 fun y s2 u μ2 F2 H2 x2 r2 k2 h5 => by
      unfold view2 at h5
      cases q1 : view s2 x with
      | none => simp only [q1] at h5; exact False.elim h5
      | some da =>
        cases q2 : view s2 y with
        | none => simp only [q1, q2] at h5; exact False.elim h5
        | some db =>
          cases q3 : f da db with
          | none => simp only [q1, q2, q3] at h5; exact False.elim h5
          | some res =>
            simp only [q1, q2, q3] at h5
            exact ok da db res v u μ2 F2 H2 s2 Q r2 (view_ok r2 (k1.ext x2) q1) (view_ok r2 k2 q2) q3 h5⟩⟩
theorem s_bin {op : Operator} {r : R2} {f : PyData → PyData → Option Rv} (ho : OpR X (binaryOp op) r) (ok : BinOk C r f) (ha : PE X a (tM C ma)) (hb : PE X b (tM C mb)) : PE X (.BinOp a op b pos) (tM C (mBin f ma mb)) :=
  s_two (pe_op ho (pv_frz ha) (pv_frz hb)) ok
theorem BinOk.or {r r' : R2} {f f' : PyData → PyData → Option Rv} (h : BinOk C r f) (h' : BinOk C r' f') : BinOk C (fun x y H Q => r x y H Q ∨ r' x y H Q) (fun a b => match f a b with | some z => some z | none => f' a b) := by
  intro a b res v u μ F H st Q s va vb e p
  cases q : f a b with
  | some z => simp only [q] at e; cases e; exact .inl (h a b _ v u μ F H st Q s va vb q p)
  | none => simp only [q] at e; exact .inr (h' a b res v u μ F H st Q s va vb e p)
/-- ints to an int -/
def fI (P : Int → Int → Bool) (g : Int → Int → Int) : PyData → PyData → Option Rv
  | .int i, .int j => if P i j then some (.d (.int (g i j))) else none
  | _, _ => none
theorem Vw.int {K : Kw} {v : V} {i : Int} (h : Vw K F H v (.int i)) : v = .int i := by cases (show Dq K F v (.int i) from h); rfl
theorem Vw.bl {K : Kw} {v : V} {i : Bool} (h : Vw K F H v (.bool i)) : v = .bl i := by cases (show Dq K F v (.bool i) from h); rfl
theorem Vw.str {K : Kw} {v : V} {i : Str} (h : Vw K F H v (.str i)) : v = .str i := by cases (show Dq K F v (.str i) from h); rfl
theorem Vw.non {K : Kw} {v : V} (h : Vw K F H v .none) : v = .non := by cases (show Dq K F v .none from h); rfl
theorem Vw.tup {K : Kw} {v : V} {ds : List PyData} (h : Vw K F H v (.tuple ds)) : ∃ a xs, v = .ref a ∧ Rd F a (.tup xs) ∧ DqAll K F xs ds := by cases (show Dq K F v (.tuple ds) from h) with | tup h1 h2 => exact ⟨_, _, rfl, h1, h2⟩
theorem fI_ok {P : Int → Int → Prop} {p : Int → Int → Bool} {g : Int → Int → Int} (hp : ∀ i j, p i j = true → P i j) : BinOk C (rI P fun i j => .int (g i j)) (fI p g) := by
  intro a b res v u μ F H st Q s va vb e h
  unfold fI at e
  split at e
  · split at e
    · rename_i hh
      cases e
      exact ⟨_, _, va.int, vb.int, hp _ _ hh, fin_d s h (.int _)⟩
    · cases e
  · cases e
theorem fI0_ok {g : Int → Int → Int} : BinOk C (rI0 fun i j => .int (g i j)) (fI (fun _ _ => true) g) := by
  intro a b res v u μ F H st Q s va vb e h
  unfold fI at e
  split at e
  · simp only [if_true] at e
    cases e
    exact ⟨_, _, va.int, vb.int, fin_d s h (.int _)⟩
  · cases e
/-- texts, tuples, lists joined -/
def fCatS : PyData → PyData → Option Rv
  | .str i, .str j => if i.length + j.length ≤ sizeLine then some (.d (.str (i ++ j))) else none
  | _, _ => none
def fCatT : PyData → PyData → Option Rv
  | .tuple i, .tuple j => if i.length + j.length ≤ sizeLine then some (.d (.tuple (i ++ j))) else none
  | _, _ => none
def fCatL : PyData → PyData → Option Rv
  | .list i, .list j => if i.length + j.length ≤ sizeLine then some (.n (.l (i ++ j))) else none
  | _, _ => none
theorem fCatS_ok : BinOk C (fun x y H Q => ∃ i j, x = .str i ∧ y = .str j ∧ i.length + j.length ≤ sizeLine ∧ Q (.str (i ++ j)) H) fCatS := by
  intro a b res v u μ F H st Q s va vb e h
  unfold fCatS at e
  split at e
  · split at e
    · cases e
      exact ⟨_, _, va.str, vb.str, by assumption, fin_d s h (.str _)⟩
    · cases e
  · cases e
theorem fCatT_ok {K : PySem.W.Frag} : BinOk C (rCatA K) fCatT := by
  intro a b res v u μ F H st Q s va vb e h
  unfold fCatT at e
  split at e
  · split at e
    · rename_i hz
      cases e
      obtain ⟨p, xs, rfl, p1, p2⟩ := va.tup
      obtain ⟨q, ys, rfl, q1, q2⟩ := vb.tup
      refine ⟨p, q, xs, ys, rfl, rfl, SqT.rd s.sub p1, SqT.rd s.sub q1, by rw [p2.length, q2.length]; exact hz, fun z => ?_, fun _ z => ?_, fun _ _ r hr => fin_t s h hr (p2.app q2)⟩
      · subst z
        cases p2
        exact fin_d s h (.tup q1 q2)
      · subst z
        cases q2
        exact fin_d s (by simpa using h) (.tup p1 p2)
    · cases e
  · cases e
theorem fCatL_ok : BinOk C rCat fCatL := by
  intro a b res v u μ F H st Q s va vb e h
  unfold fCatL at e
  split at e
  · split at e
    · rename_i hz
      cases e
      obtain ⟨p, xs, rfl, p1, p2⟩ := va
      obtain ⟨q, ys, rfl, q1, q2⟩ := vb
      exact ⟨p, q, xs, ys, rfl, rfl, p1, q1, by rw [p2.length, q2.length]; exact hz, fun r hr => fin_n s h hr ⟨_, rfl, p2.app q2⟩⟩
    · cases e
  · cases e
end
end Cp
/-! Cp2: comparisons, tests, places, slices, displays. -/
namespace Cp
open PySem L2
section
variable {X : Cx} {C : Cn} {Q : VK} {μ : Mu} {F H : Hp} {st : Sto} {e a b c : Expr} {m ma mb mc : Ev} {pos : Pos}
/-! ### comparisons -/
def CmpOk (C : Cn) (r : R2) (g : PyData → PyData → Option Bool) : Prop :=
  ∀ (a b : PyData) (k : Bool) (v u : V) (μ : Mu) (F H : Hp) (st : Sto) (Q : VK), SR C.K μ F H st → Vw C.K F H v a → Vw C.K F H u b → g a b = some k → Q (.bl k) H → r v u H Q
def cmp2 (g : PyData → PyData → Option Bool) (s : Sto) (x y : Vl) : Option Bool := match view s x, view s y with
  | some a, some b => g a b
  | _, _ => none
def okB (o : Option Bool) (s : Sto) : Res Bool := match o with
  | some k => .ok k s
  | none => .no
/-- a test's answer as a value -/
def bV (m : En → Sto → Res Bool) : Ev := fun ρ st => (m ρ st).bind fun k s => .ok (.d (.bool k)) s
def mCmp (g : PyData → PyData → Option Bool) (ma mb : Ev) : En → Sto → Res Bool := fun ρ st => (mV ma ρ st).bind fun x s1 => (mV mb ρ s1).bind fun y s2 => okB (cmp2 g s2 x y) s2
theorem CmpOk.or {r r' : R2} {f f' : PyData → PyData → Option Bool} (h : CmpOk C r f) (h' : CmpOk C r' f') : CmpOk C (fun x y H Q => r x y H Q ∨ r' x y H Q) (fun a b => match f a b with | some z => some z | none => f' a b) := by
  intro a b res v u μ F H st Q s va vb e p
  cases q : f a b with
  | some z => simp only [q] at e; cases e; exact .inl (h a b _ v u μ F H st Q s va vb q p)
  | none => simp only [q] at e; exact .inr (h' a b res v u μ F H st Q s va vb e p)
theorem cmp_core {β : Type} {G : β → Sto → Mu → Hp → Hp → Prop} (gl : Lat G) {r : R2} {g : PyData → PyData → Option Bool} (ok : CmpOk C r g) {σ : St} {ρ : En} {R : VK} (h1 : Eok C.K F μ ρ σ) {kk : Bool → Sto → Res β}
    (h3 : Post (C.at σ) G μ F H ((mCmp g ma mb ρ st).bind kk)) (fin : ∀ k s μ1 F1 H1, Ext μ F H μ1 F1 H1 → SR C.K μ1 F1 H1 s → Post (C.at σ) G μ1 F1 H1 (kk k s) → R (.bl k) H1) :
    PostV (C.at σ) (fun x H1 => tV C (mV mb) σ H1 fun y H2 => r x y H2 R) μ F H (mV ma ρ st) := by
  have h3' : Post (C.at σ) G μ F H ((mV ma ρ st).bind fun x s1 => ((mV mb ρ s1).bind fun y s2 => okB (cmp2 g s2 x y) s2).bind kk) := by
    revert h3
    unfold mCmp
    cases mV ma ρ st <;> exact id
  refine Post.bindV gl h3' fun x s v μ1 F1 H1 x1 r1 k1 h4 => ⟨ρ, s, μ1, F1, h1.ext x1, r1, ?_⟩
  have h4' : Post (C.at σ) G μ1 F1 H1 ((mV mb ρ s).bind fun y s2 => (okB (cmp2 g s2 x y) s2).bind kk) := by
    revert h4
    cases mV mb ρ s <;> exact id
  refine Post.bindV gl h4' fun y s2 u μ2 F2 H2 x2 r2 k2 h5 => ?_
  unfold cmp2 at h5
  cases q1 : view s2 x with
  | none => simp only [q1, okB] at h5; exact False.elim h5
  | some da =>
    cases q2 : view s2 y with
    | none => simp only [q1, q2, okB] at h5; exact False.elim h5
    | some db =>
      cases q3 : g da db with
      | none => simp only [q1, q2, q3, okB] at h5; exact False.elim h5
      | some k =>
        simp only [q1, q2, q3, okB] at h5
        exact ok da db k v u μ2 F2 H2 s2 R r2 (view_ok r2 (k1.ext x2) q1) (view_ok r2 k2 q2) q3 (fin k s2 μ2 F2 H2 (x1.trans x2) r2 h5)
theorem s_cmp {op : CmpOp} {r : R2} {g : PyData → PyData → Option Bool} (ho : OpR X (compareOp op) r) (ok : CmpOk C r g) (ha : PE X a (tM C ma)) (hb : PE X b (tM C mb)) (hm : behindInMarks op b = false) : PE X (.Compare a [op] [b] pos) (tM C (bV (mCmp g ma mb))) :=
  (pe_cmpR ho (pv_frz ha) (pv_frz hb) hm).imp fun σ H Q ⟨ρ, st, μ, F, h1, h2, h3⟩ => ⟨ρ, st, μ, F, h1, h2, cmp_core gE_lat ok h1 h3 fun k s μ1 F1 H1 x1 r1 h => fin_d r1 h (.bl k)⟩
theorem s_cmpT {op : CmpOp} {r : R2} {g : PyData → PyData → Option Bool} (ho : OpR X (compareOp op) r) (ok : CmpOk C r g) (ha : PE X a (tM C ma)) (hb : PE X b (tM C mb)) (hm : behindInMarks op b = false) : PT X (.Compare a [op] [b] pos) (tT C (mCmp g ma mb)) := by
  have h := pt_cmpR (pos := pos) ho (pv_frz ha) (pv_frz hb) hm
  refine ⟨fun pins s σ H Q I ⟨ρ, st, μ, F, h1, h2, h3⟩ => h.run pins s σ H Q I ⟨ρ, st, μ, F, h1, h2, ?_⟩⟩
  have h3' : PostB (C.at σ) Q μ F H ((mCmp g ma mb ρ st).bind fun k s => .ok k s) := by
    revert h3
    cases mCmp g ma mb ρ st <;> exact id
  exact cmp_core gB_lat ok h1 h3' fun k s μ1 F1 H1 x1 r1 h => ⟨k, rfl, h μ1 F1 H1 Ext.refl r1⟩
/-! ### their answers -/
mutual
theorem Dq.dp {K : Kw} {K' : PySem.W.Frag} {H : Hp} : ∀ {v : V} {d : PyData}, Dq K H v d → d.canLay0 = true → Dp K' H v d
  | _, _, .non, _ => .non
  | _, _, .bl b, _ => .bl b
  | _, _, .int i, _ => .int i
  | _, _, .str x, _ => .str x
  | _, _, .lst h r, c => .lst (SqL.of h) (DqAll.dp r c)
  | _, _, .tup h r, c => .tup (.inl h) (DqAll.dp r c)
  | _, _, .dic _ _, c => by simp [PyData.canLay0] at c
  | _, _, .dig _ _ _ _, c => by simp [PyData.canLay0] at c
  | _, _, .ins _ _ _, c => by simp [PyData.canLay0] at c
theorem DqAll.dp {K : Kw} {K' : PySem.W.Frag} {H : Hp} : ∀ {vs : List V} {ds : List PyData}, DqAll K H vs ds → PyData.canLayAll0 ds = true → DpAll K' H vs ds
  | _, _, .nil, _ => .nil
  | _, _, .cons h r, c => by
    rw [PyData.canLayAll0, Bool.and_eq_true] at c
    exact .cons (Dq.dp h c.1) (DqAll.dp r c.2)
end
def gEq (a b : PyData) : Option Bool := if SeqAt.shaped a && SeqAt.shaped b then some (PyData.eqv a b) else none
def gNe (a b : PyData) : Option Bool := if SeqAt.shaped a && SeqAt.shaped b then some (!PyData.eqv a b) else none
theorem gEq_ok {K : PySem.W.Frag} : CmpOk C (rEqD K) gEq := by
  intro a b k v u μ F H st Q s va vb e q
  unfold gEq at e
  split at e
  · rename_i hh
    rw [Bool.and_eq_true] at hh
    cases e
    exact ⟨a, b, (va.dq s.sub).dp (SeqAt.canLay_of_shaped hh.1), (vb.dq s.sub).dp (SeqAt.canLay_of_shaped hh.2), hh.1, hh.2, q⟩
  · cases e
theorem gNe_ok {K : PySem.W.Frag} : CmpOk C (rNeD K) gNe := by
  intro a b k v u μ F H st Q s va vb e q
  unfold gNe at e
  split at e
  · rename_i hh
    rw [Bool.and_eq_true] at hh
    cases e
    exact ⟨a, b, (va.dq s.sub).dp (SeqAt.canLay_of_shaped hh.1), (vb.dq s.sub).dp (SeqAt.canLay_of_shaped hh.2), hh.1, hh.2, q⟩
  · cases e
def gI (p : Int → Int → Bool) : PyData → PyData → Option Bool
  | .int i, .int j => some (p i j)
  | _, _ => none
theorem gI_ok {p : Int → Int → Bool} : CmpOk C (rI0 fun i j => .bl (p i j)) (gI p) := by
  intro a b k v u μ F H st Q s va vb e q
  unfold gI at e
  split at e
  · cases e; exact ⟨_, _, va.int, vb.int, q⟩
  · cases e
/-- is None; is True, is False -/
def gIsN : PyData → PyData → Option Bool
  | .none, .none => some true
  | _, .none => some false
  | _, _ => none
def gNotN (a b : PyData) : Option Bool := (gIsN a b).map (!·)
def isNone : PyData → Bool
  | .none => true
  | _ => false
theorem Vw.isN {K : Kw} {v : V} {d : PyData} (h : Vw K F H v d) : decide (v = .non) = isNone d := by
  cases d with
  | none => rw [h.non]; rfl
  | bool b => rw [h.bl]; rfl
  | int b => rw [h.int]; rfl
  | str b => rw [h.str]; rfl
  | tuple b => obtain ⟨p, xs, rfl, _⟩ := h.tup; rfl
  | list b => obtain ⟨p, xs, rfl, _⟩ := h; rfl
  | dict b =>
    rcases h with ⟨p, xs, rfl, _⟩ | ⟨x, r, rfl, h⟩
    · rfl
    · cases h <;> rfl
theorem gIsN_ok : CmpOk C (fun x y H Q => y = .non ∧ Q (.bl (decide (x = .non))) H) gIsN := by
  intro a b k v u μ F H st Q s va vb e q
  cases b with
  | none =>
    refine ⟨vb.non, ?_⟩
    rw [va.isN]
    cases a <;> (cases e; exact q)
  | _ => cases a <;> cases e
theorem gNotN_ok : CmpOk C (fun x y H Q => y = .non ∧ Q (.bl (!decide (x = .non))) H) gNotN := by
  intro a b k v u μ F H st Q s va vb e q
  cases b with
  | none =>
    refine ⟨vb.non, ?_⟩
    rw [va.isN]
    cases a <;> (cases e; exact q)
  | _ => cases a <;> cases e
/-- in a list or tuple of flat things -/
def flatD : PyData → Bool
  | .none => true
  | .bool _ => true
  | .int _ => true
  | .str _ => true
  | _ => false
def eqF : PyData → PyData → Bool
  | .none, .none => true
  | .bool a, .bool b => a == b
  | .bool a, .int b => (if a then 1 else 0) == b
  | .int a, .bool b => a == (if b then 1 else 0)
  | .int a, .int b => a == b
  | .str a, .str b => a == b
  | _, _ => false
def itemsD : PyData → Option (List PyData)
  | .list xs => some xs
  | .tuple xs => some xs
  | _ => none
def gIn (neg : Bool) (a b : PyData) : Option Bool := match itemsD b with
  | some xs => if flatD a && xs.all flatD then some (if neg then !xs.any (fun y => eqF y a) else xs.any (fun y => eqF y a)) else none
  | none => none
theorem flat_dq {K : Kw} {v : V} {d : PyData} (h : Dq K F v d) (f : flatD d = true) : flatV v = true ∧ ∀ {u : V} {e : PyData}, Dq K F u e → flatD e = true → eqV u v = eqF e d := by
  cases h with
  | non => exact ⟨rfl, fun {u e} g fe => by cases g <;> first | rfl | cases fe⟩
  | bl b => exact ⟨rfl, fun {u e} g fe => by cases g <;> first | rfl | cases fe⟩
  | int b => exact ⟨rfl, fun {u e} g fe => by cases g <;> first | rfl | cases fe⟩
  | str b => exact ⟨rfl, fun {u e} g fe => by cases g <;> first | rfl | cases fe⟩
  | lst _ _ => cases f
  | tup _ _ => cases f
  | dic _ _ => cases f
  | dig _ _ _ _ => cases f
  | ins _ _ _ => cases f
theorem flat_all {K : Kw} {v : V} {d : PyData} (h : Dq K F v d) (f : flatD d = true) : ∀ {vs : List V} {ds : List PyData}, DqAll K F vs ds → ds.all flatD = true → vs.all flatV = true ∧ inV v vs = ds.any (fun y => eqF y d)
  | _, _, .nil, _ => ⟨rfl, rfl⟩
  | _, _, .cons (v := u) (vs := us) (d := e) (ds := es) g r, c => by
    rw [List.all_cons, Bool.and_eq_true] at c
    obtain ⟨h1, h2⟩ := flat_all h f r c.2
    refine ⟨by rw [List.all_cons, (flat_dq g c.1).1, h1]; rfl, ?_⟩
    show ((u :: us).any fun y => eqV y v) = ((e :: es).any fun y => eqF y d)
    rw [List.any_cons, List.any_cons, (flat_dq h f).2 g c.1]
    exact congrArg _ h2
theorem Vw.flat {K : Kw} {v : V} {d : PyData} (h : Vw K F H v d) (f : flatD d = true) : Dq K F v d := by
  cases d with
  | list xs => cases f
  | dict xs => cases f
  | _ => exact h
theorem gIn_ok {K : PySem.W.Frag} {neg : Bool} : CmpOk C (rIn K neg) (gIn neg) := by
  intro a b k v u μ F H st Q s va vb e q
  unfold gIn at e
  cases b with
  | list ds =>
    simp only [itemsD] at e
    split at e
    · rename_i hh
      rw [Bool.and_eq_true] at hh
      cases e
      obtain ⟨p, xs, rfl, p1, p2⟩ := vb
      obtain ⟨h1, h2⟩ := flat_all (va.flat hh.1) hh.1 p2 hh.2
      exact ⟨p, xs, rfl, .inl (SqL.of p1), (flat_dq (va.flat hh.1) hh.1).1, h1, by rw [h2]; exact q⟩
    · cases e
  | tuple ds =>
    simp only [itemsD] at e
    split at e
    · rename_i hh
      rw [Bool.and_eq_true] at hh
      cases e
      obtain ⟨p, xs, rfl, p1, p2⟩ := vb.tup
      obtain ⟨h1, h2⟩ := flat_all (va.flat hh.1) hh.1 p2 hh.2
      exact ⟨p, xs, rfl, .inr (SqT.rd s.sub p1), (flat_dq (va.flat hh.1) hh.1).1, h1, by rw [h2]; exact q⟩
    · cases e
  | _ => cases e
/-! ### truth, and, or, not, if -/
def truD : PyData → Option Bool
  | .none => some false
  | .bool b => some b
  | .int i => some (i != 0)
  | .str y => if y.length ≤ sizeLine then some ((y.length : Int) != 0) else none
  | .list xs => some (!xs.isEmpty)
  | .tuple xs => some (!xs.isEmpty)
  | .dict xs => if flK xs then some (!xs.isEmpty) else none
theorem truD_ok {K : Kw} {K' : PySem.W.Frag} {v : V} {d : PyData} {k : Bool} (s : Same F H) (h : Vw K F H v d) (e : truD d = some k) : TruV K' v H k := by
  cases d with
  | none => cases e; rw [h.non]; exact rfl
  | bool b => cases e; rw [h.bl]; exact rfl
  | int b => cases e; rw [h.int]; exact rfl
  | str b =>
    rw [h.str]
    simp only [truD] at e
    by_cases hz : b.length ≤ sizeLine
    · rw [if_pos hz] at e; cases e; exact ⟨hz, rfl⟩
    · rw [if_neg hz] at e; cases e
  | list b => cases e; obtain ⟨p, xs, rfl, h1, h2⟩ := h; exact .inl ⟨xs, SqL.of h1, by cases h2 <;> rfl⟩
  | tuple b => cases e; obtain ⟨p, xs, rfl, h1, h2⟩ := h.tup; exact .inr (.inl ⟨xs, SqT.rd s h1, by cases h2 <;> rfl⟩)
  | dict b =>
    simp only [truD] at e
    by_cases hf : flK b = true
    · rw [if_pos hf] at e; cases e; obtain ⟨p, xs, rfl, h1, h2⟩ := h.flat_dict hf; exact .inr (.inr ⟨xs, h1, by cases h2 <;> rfl⟩)
    · rw [if_neg hf] at e; cases e
def mTru (m : Ev) : En → Sto → Res Bool := fun ρ st => (mV m ρ st).bind fun x s => okB ((view s x).bind truD) s
/-- an expression as a test -/
theorem s_test (h : PE X e (tM C m)) (he : ∀ whole, isTrue e X.env whole = (do let v ← whole; standAt e.pos; holding [v] (truthy v))) : PT X e (tT C (mTru m)) := by
  have h := pt_truth (pv_frz h) he
  refine ⟨fun pins s σ H Q I ⟨ρ, st, μ, F, h1, h2, h3⟩ => h.run pins s σ H Q I ⟨ρ, st, μ, F, h1, h2, ?_⟩⟩
  refine Post.bindV gB_lat h3 fun x s v μ1 F1 H1 x1 r1 k1 h4 => ?_
  cases q1 : view s x with
  | none => simp only [q1, Option.bind, okB] at h4; exact False.elim h4
  | some d =>
    cases q2 : truD d with
    | none => simp only [q1, q2, Option.bind, okB] at h4; exact False.elim h4
    | some k =>
      simp only [q1, q2, Option.bind, okB] at h4
      exact ⟨k, truD_ok r1.sub (view_ok r1 k1 q1) q2, h4 μ1 F1 H1 Ext.refl r1⟩
/-- a test as it is seen by one that wants the answer's continuation -/
theorem tT_bind {β : Type} {G : β → Sto → Mu → Hp → Hp → Prop} (gl : Lat G) {m : En → Sto → Res Bool} {kk : Bool → Sto → Res β} {σ : St} {ρ : En} {R : Bool → Hp → Prop} (h1 : Eok C.K F μ ρ σ) (h2 : SR C.K μ F H st)
    (h3 : Post (C.at σ) G μ F H ((m ρ st).bind kk)) (fin : ∀ k s μ1 F1 H1, Ext μ F H μ1 F1 H1 → SR C.K μ1 F1 H1 s → Eok C.K F1 μ1 ρ σ → Post (C.at σ) G μ1 F1 H1 (kk k s) → R k H1) : tT C m σ H R :=
  ⟨ρ, st, μ, F, h1, h2, Post.bindB gl h3 fun x s μ1 F1 H1 x1 r1 h4 => fin x s μ1 F1 H1 x1 r1 (h1.ext x1) h4⟩
def bAnd (ma mb : En → Sto → Res Bool) : En → Sto → Res Bool := fun ρ st => (ma ρ st).bind fun k s => if k = true then mb ρ s else .ok false s
def bOr (ma mb : En → Sto → Res Bool) : En → Sto → Res Bool := fun ρ st => (ma ρ st).bind fun k s => if k = true then .ok true s else mb ρ s
def bNot (ma : En → Sto → Res Bool) : En → Sto → Res Bool := fun ρ st => (ma ρ st).bind fun k s => .ok (!k) s
variable {ba bb bc : En → Sto → Res Bool} {rest : List Expr}
theorem w_and1 (ha : PT X a (tT C ba)) : PW X (.BoolOp .And [a] pos) (tT C ba) := pw_and1 ha
theorem w_or1 (ha : PT X a (tT C ba)) : PW X (.BoolOp .Or [a] pos) (tT C ba) := pw_or1 ha
theorem _root_.L2.PW.imp {t t' : TT} (h : PW X e t) (w : ∀ σ H Q, t' σ H Q → t σ H Q) : PW X e t' := ⟨fun wh pins s σ H Q I h' => h.run wh pins s σ H Q I (w σ H Q h')⟩
theorem _root_.L2.PT.imp {t t' : TT} (h : PT X e t) (w : ∀ σ H Q, t' σ H Q → t σ H Q) : PT X e t' := ⟨fun pins s σ H Q I h' => h.run pins s σ H Q I (w σ H Q h')⟩
theorem w_and (ha : PT X a (tT C ba)) (hb : PW X (.BoolOp .And (b :: rest) pos) (tT C bb)) : PW X (.BoolOp .And (a :: b :: rest) pos) (tT C (bAnd ba bb)) :=
  (pw_and ha hb).imp fun σ H Q ⟨ρ, st, μ, F, h1, h2, h3⟩ => tT_bind gB_lat h1 h2 h3 fun k s μ1 F1 H1 x1 r1 e1 h4 => by
    cases k with
    | true => simp only [if_true] at h4 ⊢; exact ⟨ρ, s, μ1, F1, e1, r1, h4⟩
    | false => simp only [Bool.false_eq_true, if_false] at h4 ⊢; exact h4 μ1 F1 H1 Ext.refl r1
theorem w_or (ha : PT X a (tT C ba)) (hb : PW X (.BoolOp .Or (b :: rest) pos) (tT C bb)) : PW X (.BoolOp .Or (a :: b :: rest) pos) (tT C (bOr ba bb)) :=
  (pw_or ha hb).imp fun σ H Q ⟨ρ, st, μ, F, h1, h2, h3⟩ => tT_bind gB_lat h1 h2 h3 fun k s μ1 F1 H1 x1 r1 e1 h4 => by
    cases k with
    | false => simp only [Bool.false_eq_true, if_false] at h4 ⊢; exact ⟨ρ, s, μ1, F1, e1, r1, h4⟩
    | true => simp only [if_true] at h4 ⊢; exact h4 μ1 F1 H1 Ext.refl r1
theorem s_notT (ha : PT X a (tT C ba)) : PT X (.UnaryOp .Not a pos) (tT C (bNot ba)) :=
  (pt_not ha).imp fun σ H Q ⟨ρ, st, μ, F, h1, h2, h3⟩ => tT_bind gB_lat h1 h2 h3 fun k s μ1 F1 H1 x1 r1 e1 h4 => h4 μ1 F1 H1 Ext.refl r1
def eIf (c : En → Sto → Res Bool) (ma mb : Ev) : Ev := fun ρ st => (c ρ st).bind fun k s => if k = true then ma ρ s else mb ρ s
theorem s_ifE {ce : Expr} (hc : PT X ce (tT C bc)) (ha : PE X a (tM C ma)) (hb : PE X b (tM C mb)) : PE X (.IfExp ce a b pos) (tM C (eIf bc ma mb)) :=
  (pe_ifExp hc ha hb).imp fun σ H Q ⟨ρ, st, μ, F, h1, h2, h3⟩ => tT_bind gE_lat h1 h2 h3 fun k s μ1 F1 H1 x1 r1 e1 h4 => by
    cases k with
    | true => simp only [if_true] at h4 ⊢; exact ⟨ρ, s, μ1, F1, e1, r1, h4⟩
    | false => simp only [Bool.false_eq_true, if_false] at h4 ⊢; exact ⟨ρ, s, μ1, F1, e1, r1, h4⟩
def eAnd (ma mb : Ev) : Ev := fun ρ st => (mV ma ρ st).bind fun x s => match x with
  | .d (.bool true) => mb ρ s
  | .d (.bool false) => .ok (.d (.bool false)) s
  | _ => .no
def eOr (ma mb : Ev) : Ev := fun ρ st => (mV ma ρ st).bind fun x s => match x with
  | .d (.bool true) => .ok (.d (.bool true)) s
  | .d (.bool false) => mb ρ s
  | _ => .no
def eNot (ma : Ev) : Ev := fun ρ st => (mV ma ρ st).bind fun x s => match x with
  | .d (.bool k) => .ok (.d (.bool (!k))) s
  | _ => .no
theorem s_one {op} (ha : PE X a (tM C ma)) : PE X (.BoolOp op [a] pos) (tM C ma) := pe_one ha
theorem s_and (ha : PE X a (tM C ma)) (hb : PE X (.BoolOp .And (b :: rest) pos) (tM C mb)) : PE X (.BoolOp .And (a :: b :: rest) pos) (tM C (eAnd ma mb)) :=
  (pe_and (pv_frz ha) hb).imp fun σ H Q ⟨ρ, st, μ, F, h1, h2, h3⟩ => ⟨ρ, st, μ, F, h1, h2, Post.bindV gE_lat h3 fun x s v μ1 F1 H1 x1 r1 k1 h4 => by
    cases x with
    | c i => exact False.elim h4
    | s i => exact False.elim h4
    | o i => exact False.elim h4
    | d x =>
      cases x with
      | bool k =>
        cases (show Dq C.K F1 v (.bool k) from k1)
        refine ⟨k, rfl, ?_⟩
        cases k with
        | true => simp only [if_true]; exact ⟨ρ, s, μ1, F1, h1.ext x1, r1, h4⟩
        | false => simp only [Bool.false_eq_true, if_false]; exact fin_d r1 h4 (.bl false)
      | _ => exact False.elim h4⟩
end
end Cp
/-! Cp3: places, slices, displays, calls of built-in functions and methods. -/
namespace Cp
open PySem L2
section
variable {X : Cx} {C : Cn} {Q : VK} {μ : Mu} {F H : Hp} {st : Sto} {e a b c : Expr} {m ma mb mc : Ev} {pos : Pos} {es : List Expr}
/-! ### places -/
theorem atI_dq {K : Kw} {xs : List V} {ds : List PyData} {i : Int} {d : PyData} (r : DqAll K F xs ds) (h : atI ds i = some d) : ∃ v, atI xs i = some v ∧ Dq K F v d := by
  unfold atI at h ⊢
  rw [r.length]
  cases q : ixN ds.length i with
  | none => rw [q] at h; cases h
  | some j =>
    rw [q] at h
    obtain ⟨v, h1, h2⟩ := r.get (show ds[j]? = some d from h)
    exact ⟨v, h1, h2⟩
theorem atI_ints {ns : List Int} {i k : Int} (h : atI ns i = some k) : atI (ns.map V.int) i = some (.int k) := by
  unfold atI at h ⊢
  rw [List.length_map]
  cases q : ixN ns.length i with
  | none => rw [q] at h; cases h
  | some j =>
    rw [q] at h
    have h : ns[j]? = some k := h
    show (ns.map V.int)[j]? = some (.int k)
    rw [List.getElem?_map, h]; rfl
def fIx : PyData → PyData → Option Rv
  | .list xs, .int i => (atI xs i).map .d
  | .tuple xs, .int i => (atI xs i).map .d
  | .str z, .int i => if z.length ≤ sizeLine then (atI z.cps.toList i).map fun c => .d (.str ⟨#[c]⟩) else none
  | _, _ => none
theorem fIx_ok {K : PySem.W.Frag} : BinOk C (rIx K) fIx := by
  intro a b res v u μ F H st Q s va vb e h
  unfold fIx at e
  split at e
  · obtain ⟨p, xs, rfl, p1, p2⟩ := va
    obtain ⟨d, hd, rfl⟩ := Option.map_eq_some_iff.mp e
    obtain ⟨w, h1, h2⟩ := atI_dq p2 hd
    exact .inl ⟨p, xs, _, w, rfl, vb.int, SqL.of p1, h1, fin_d s h h2⟩
  · obtain ⟨p, xs, rfl, p1, p2⟩ := va.tup
    obtain ⟨d, hd, rfl⟩ := Option.map_eq_some_iff.mp e
    obtain ⟨w, h1, h2⟩ := atI_dq p2 hd
    exact .inr (.inl ⟨p, xs, _, w, rfl, vb.int, SqT.rd s.sub p1, h1, fin_d s h h2⟩)
  · split at e
    · rename_i hz
      obtain ⟨d, hd, rfl⟩ := Option.map_eq_some_iff.mp e
      exact .inr (.inr ⟨_, _, d, va.str, vb.int, hz, hd, fin_d s h (.str _)⟩)
    · cases e
  · cases e
theorem s_ix (ha : PE X a (tM C ma)) (hb : PE X b (tM C mb)) (hs : PlainIx b) : PE X (.Subscript a b pos) (tM C (mBin fIx ma mb)) :=
  s_two (pe_ix ix_seq (pv_frz ha) (pv_frz hb) hs) fIx_ok
/-- script[i] -/
def mSix (ma mb : Ev) : Ev := fun ρ st => (mV ma ρ st).bind fun x s1 => (mV mb ρ s1).bind fun y s2 => match x, y with
  | .s ns, .d (.int i) => match atI ns i with
    | some k => .ok (.d (.int k)) s2
    | none => .no
  | _, _ => .no
theorem s_six (hK : C.K = X.K) (ha : PE X a (tM C ma)) (hb : PE X b (tM C mb)) (hs : PlainIx b) : PE X (.Subscript a b pos) (tM C (mSix ma mb)) :=
  (pe_ix ix_seq (pv_frz ha) (pv_frz hb) hs).imp fun σ H Q ⟨ρ, st, μ, F, h1, h2, h3⟩ => ⟨ρ, st, μ, F, h1, h2, Post.bindV gE_lat h3 fun x s v μ1 F1 H1 x1 r1 k1 h4 =>
    ⟨ρ, s, μ1, F1, h1.ext x1, r1, Post.bindV gE_lat h4 fun y s2 u μ2 F2 H2 x2 r2 k2 h5 => by
      cases x with
      | d _ => exact False.elim h5
      | c _ => exact False.elim h5
      | o _ => exact False.elim h5
      | s ns =>
        cases y with
        | s _ => exact False.elim h5
        | o _ => exact False.elim h5
        | c _ => exact False.elim h5
        | d y =>
          cases y with
          | int i =>
            cases q : atI ns i with
            | none => simp only [q] at h5; exact False.elim h5
            | some k =>
              simp only [q] at h5
              obtain ⟨p, rfl, hp⟩ := k1
              cases (show Dq C.K F2 u (.int i) from k2)
              exact .inl ⟨p, _, i, .int k, rfl, rfl, hK ▸ (r2.sub).seq (x2.same.seq hp), atI_ints q, fin_d r2 h5 (.int k)⟩
          | _ => exact False.elim h5⟩⟩
/-! ### argument lists, displays -/
def aNil : En → Sto → Res (List Vl) := fun _ st => .ok [] st
def aCons (mv : En → Sto → Res Vl) (mr : En → Sto → Res (List Vl)) : En → Sto → Res (List Vl) := fun ρ st => (mv ρ st).bind fun x s1 => (mr ρ s1).bind fun xs s2 => .ok (x :: xs) s2
theorem _root_.L2.PA.imp {t t' : TA} (h : PA X es t) (w : ∀ σ H Q, t' σ H Q → t σ H Q) : PA X es t' := ⟨fun pos pins s σ H Q I h' => h.run pos pins s σ H Q I (w σ H Q h')⟩
theorem a_nil : PA X [] (tAs C aNil) := pa_nil.imp fun σ H Q ⟨ρ, st, μ, F, h1, h2, h3⟩ => h3 [] μ F H Ext.refl h2 .nil
theorem a_consV {mv : En → Sto → Res Vl} {mr : En → Sto → Res (List Vl)} (ha : PE X e (tV C mv)) (hr : PA X es (tAs C mr)) (hs : starEach (e :: es) X.env = (false, eval e X.env) :: starEach es X.env := by rfl) : PA X (e :: es) (tAs C (aCons mv mr)) :=
  (pa_cons ha hr hs).imp fun σ H Q ⟨ρ, st, μ, F, h1, h2, h3⟩ => ⟨ρ, st, μ, F, h1, h2, Post.bindV gA_lat h3 fun x s v μ1 F1 H1 x1 r1 k1 h4 =>
    ⟨ρ, s, μ1, F1, h1.ext x1, r1, Post.bindA gA_lat h4 fun y s2 u μ2 F2 H2 x2 r2 k2 h5 => h5 (v :: u) μ2 F2 H2 Ext.refl r2 (.cons (k1.ext x2) k2)⟩⟩
theorem a_cons {mr : En → Sto → Res (List Vl)} (ha : PE X e (tM C m)) (hr : PA X es (tAs C mr)) (hs : starEach (e :: es) X.env = (false, eval e X.env) :: starEach es X.env := by rfl) : PA X (e :: es) (tAs C (aCons (mV m) mr)) := a_consV (pv_frz ha) hr hs
theorem a_consC {mr : En → Sto → Res (List Vl)} (ha : PE X e (tM C m)) (hr : PA X es (tAs C mr)) (hs : starEach (e :: es) X.env = (false, eval e X.env) :: starEach es X.env := by rfl) : PA X (e :: es) (tAs C (aCons (mVc m) mr)) := a_consV (pv_cell ha) hr hs
def allD : List Vl → Option (List PyData)
  | [] => some []
  | .d x :: r => match allD r with
    | some xs => some (x :: xs)
    | none => none
  | _ :: _ => none
theorem allD_ok {K : Kw} : ∀ {xs : List Vl} {vs : List V} {ds : List PyData}, VokAll K F μ xs vs → allD xs = some ds → DqAll K F vs ds
  | _, _, _, .nil, e => by cases e; exact .nil
  | x :: xs, _, _, .cons h r, e => by
    cases x with
    | c i => cases e
    | s i => cases e
    | o i => cases e
    | d x =>
      unfold allD at e
      cases q : allD xs with
      | none => simp only [q] at e; cases e
      | some ys => simp only [q] at e; cases e; exact .cons h (allD_ok r q)
def mTup (ma : En → Sto → Res (List Vl)) : Ev := fun ρ st => (ma ρ st).bind fun xs s => match allD xs with
  | some ds => if ds.length ≤ sizeLine then .ok (.d (.tuple ds)) s else .no
  | none => .no
def mLst (ma : En → Sto → Res (List Vl)) : Ev := fun ρ st => (ma ρ st).bind fun xs s => match allD xs with
  | some ds => if ds.length ≤ sizeLine then .ok (.n (.l ds)) s else .no
  | none => .no
variable {mas : En → Sto → Res (List Vl)}
theorem s_tup {k} (h : PA X es (tAs C mas)) : PE X (.Tuple es k pos) (tM C (mTup mas)) := (pe_tup h).imp fun σ H Q ⟨ρ, st, μ, F, h1, h2, h3⟩ => ⟨ρ, st, μ, F, h1, h2, Post.bindA gE_lat h3 fun x s v μ1 F1 H1 x1 r1 k1 h4 => by
  cases q : allD x with
  | none => simp only [q] at h4; exact False.elim h4
  | some ds =>
    simp only [q] at h4
    have r := allD_ok k1 q
    split at h4
    · exact ⟨by rw [r.length]; assumption, fun p hp => fin_t r1 h4 hp r⟩
    · exact False.elim h4⟩
theorem s_lst (h : PA X es (tAs C mas)) : PE X (.List es pos) (tM C (mLst mas)) := (pe_lst h).imp fun σ H Q ⟨ρ, st, μ, F, h1, h2, h3⟩ => ⟨ρ, st, μ, F, h1, h2, Post.bindA gE_lat h3 fun x s v μ1 F1 H1 x1 r1 k1 h4 => by
  cases q : allD x with
  | none => simp only [q] at h4; exact False.elim h4
  | some ds =>
    simp only [q] at h4
    have r := allD_ok k1 q
    split at h4
    · exact ⟨by rw [r.length]; assumption, fun p hp => fin_n r1 h4 hp ⟨_, rfl, r⟩⟩
    · exact False.elim h4⟩
/-! ### slices -/
abbrev gO (C : Cn) (Q : Option Int → Hp → Prop) : Option Int → Sto → Mu → Hp → Hp → Prop := fun o st μ F H => ∀ μ' F' H', Ext μ F H μ' F' H' → SR C.K μ' F' H' st → Q o H'
def tO (C : Cn) (m : En → Sto → Res (Option Int)) : TO := fun σ H Q => At C σ H fun ρ st μ F => Post (C.at σ) (gO C Q) μ F H (m ρ st)
def oNone : En → Sto → Res (Option Int) := fun _ st => .ok none st
def oSome (m : Ev) : En → Sto → Res (Option Int) := fun ρ st => (mV m ρ st).bind fun x s => match x with
  | .d (.int i) => .ok (some i) s
  | _ => .no
theorem _root_.L2.PO.imp {o : Option Expr} {t t' : TO} (h : PO X o t) (w : ∀ σ H Q, t' σ H Q → t σ H Q) : PO X o t' := ⟨fun pins s σ H Q I h' => h.run pins s σ H Q I (w σ H Q h')⟩
theorem o_none : PO X none (tO C oNone) := po_none.imp fun σ H Q ⟨ρ, st, μ, F, h1, h2, h3⟩ => h3 μ F H Ext.refl h2
theorem gO_lat {Q : Option Int → Hp → Prop} : Lat (gO C Q) := ⟨fun x h μ' F' H' y s => h μ' F' H' (x.trans y) s⟩
theorem o_some (h : PE X e (tM C m)) : PO X (some e) (tO C (oSome m)) := (po_some (pv_frz h)).imp fun σ H Q ⟨ρ, st, μ, F, h1, h2, h3⟩ => ⟨ρ, st, μ, F, h1, h2, Post.bindV gO_lat h3 fun x s v μ1 F1 H1 x1 r1 k1 h4 => by
  cases x with
  | c i => exact False.elim h4
  | s i => exact False.elim h4
  | o i => exact False.elim h4
  | d x =>
    cases x with
    | int i => cases (show Dq C.K F1 v (.int i) from k1); exact ⟨i, rfl, h4 μ1 F1 H1 Ext.refl r1⟩
    | _ => exact False.elim h4⟩
def cutD (xs : List PyData) (lo hi : Option Int) : List PyData := (xs.drop (HT.sIx xs.length 0 lo)).take (HT.sIx xs.length xs.length hi - HT.sIx xs.length 0 lo)
def fSl (a : PyData) (lo hi : Option Int) : Option Rv := match a with
  | .list xs => some (.n (.l (cutD xs lo hi)))
  | .tuple xs => some (.d (.tuple (cutD xs lo hi)))
  | .str z => if z.length ≤ sizeLine then some (.d (.str (cutS z lo hi))) else none
  | _ => none
theorem cut_dq {K : Kw} {xs : List V} {ds : List PyData} (r : DqAll K F xs ds) (lo hi : Option Int) : DqAll K F (cutV xs lo hi) (cutD ds lo hi) := by
  unfold cutV cutD
  rw [r.length]
  exact (r.drop _).take _
def mSl (ma : Ev) (ml mh : En → Sto → Res (Option Int)) : Ev := fun ρ st => (mV ma ρ st).bind fun x s1 => (ml ρ s1).bind fun l s2 => (mh ρ s2).bind fun h s3 => match view s3 x with
  | some d => match fSl d l h with
    | some r => .ok r s3
    | none => .no
  | none => .no
theorem s_sl {lo hi : Option Expr} {p2 : Pos} {ml mh : En → Sto → Res (Option Int)} (ha : PE X a (tM C ma)) (hl : PO X lo (tO C ml)) (hh : PO X hi (tO C mh)) : PE X (.Subscript a (.Slice lo hi none p2) pos) (tM C (mSl ma ml mh)) := by
  have h := pe_slice (pos := pos) (p2 := p2) (SlR.or (sl_list (X := X)) (SlR.or sl_tupA sl_str)) (pv_frz ha) hl hh
  refine h.imp fun σ H Q ⟨ρ, st, μ, F, h1, h2, h3⟩ => ⟨ρ, st, μ, F, h1, h2, Post.bindV gE_lat h3 fun x s v μ1 F1 H1 x1 r1 k1 h4 => ⟨ρ, s, μ1, F1, h1.ext x1, r1, ?_⟩⟩
  have bindO : ∀ {β : Type} {G : β → Sto → Mu → Hp → Hp → Prop} (g : Lat G) {mm : Res (Option Int)} {k : Option Int → Sto → Res β} {R : Option Int → Hp → Prop} {μ : Mu} {F H : Hp}, Post (C.at σ) G μ F H (mm.bind k) →
      (∀ x s μ1 F1 H1, Ext μ F H μ1 F1 H1 → SR C.K μ1 F1 H1 s → Post (C.at σ) G μ1 F1 H1 (k x s) → R x H1) → Post (C.at σ) (gO C R) μ F H mm := by
    intro β G g mm k R μ F H h hk
    cases mm with
    | ok x s => exact fun μ1 F1 H1 e s1 => hk x s μ1 F1 H1 e s1 (Post.later g e h)
    | er e s => exact h
    | no => exact h
  refine bindO gE_lat h4 fun l s2 μ2 F2 H2 x2 r2 h5 => ⟨ρ, s2, μ2, F2, (h1.ext x1).ext x2, r2, bindO gE_lat h5 fun hh s3 μ3 F3 H3 x3 r3 h6 => ?_⟩
  have k3 := (k1.ext x2).ext x3
  cases q : view s3 x with
  | none => simp only [q] at h6; exact False.elim h6
  | some d =>
    simp only [q] at h6
    have w := view_ok r3 k3 q
    cases d with
    | list ds =>
      simp only [fSl] at h6
      obtain ⟨p, xs, rfl, p1, p2⟩ := w
      exact .inl ⟨p, xs, rfl, SqL.of p1, fun r hr => fin_n r3 h6 hr ⟨_, rfl, cut_dq p2 _ _⟩⟩
    | tuple ds =>
      simp only [fSl] at h6
      obtain ⟨p, xs, rfl, p1, p2⟩ := w.tup
      refine .inr (.inl ⟨p, xs, rfl, SqT.rd r3.sub p1, fun hw => ?_, fun _ r hr => fin_t r3 h6 hr (cut_dq p2 _ _)⟩)
      have e : cutD ds l hh = ds := by
        rw [p2.length] at hw
        unfold cutD
        rw [hw.1, hw.2]; simp
      rw [e] at h6
      exact fin_d r3 h6 (.tup p1 p2)
    | str z =>
      simp only [fSl] at h6
      by_cases hz : z.length ≤ sizeLine
      · rw [if_pos hz] at h6
        exact .inr (.inr ⟨z, w.str, hz, fin_d r3 h6 (.str _)⟩)
      · rw [if_neg hz] at h6; exact False.elim h6
    | _ => exact False.elim h6
end
end Cp
/-! Cs: data read off the heap, sorted, shown. -/
namespace Cp
open PySem L2
section
variable {X : Cx} {pins : List (Addr × Obj)} {σ : St} {H F : Hp} {s : Shared} {K : Kw}
theorem key_reads {P : Program} {w : World} {h : Heap} (k : Key) (v : Value) (e : (mixKind P w).is k v = true) : Reads h v (kD k) [] := by
  rcases keyIs_shape (k := k) (v := v) e with ⟨i, t, rfl, rfl⟩ | ⟨x, t, rfl, rfl⟩
  · exact .int i t
  · exact .str x t
mutual
theorem Dq.reads (I : Inv X pins σ H s) : ∀ {v : V} {d : PyData} {u : Value}, Dq K H v d → RelV v u → d.hasDict = false → ∃ as, Reads s.heap u d as
  | _, _, _, .non, r, _ => by cases r; exact ⟨_, .none⟩
  | _, _, _, .bl b, r, _ => by cases r; exact ⟨_, .bool b⟩
  | _, _, _, .int i, r, _ => by obtain ⟨t, rfl⟩ := r; exact ⟨_, .int i t⟩
  | _, _, _, .str x, r, _ => by obtain ⟨t, rfl⟩ := r; exact ⟨_, .str x t⟩
  | _, _, _, .lst h q, r, n => by
    cases r
    obtain ⟨its, rv, ⟨o, k, ho, hc, _, hd⟩, _⟩ := I.list (SqL.of h)
    obtain ⟨as, hr⟩ := DqAll.reads I q rv n
    exact ⟨_, .list ho hc hd hr⟩
  | _, _, _, .tup h q, r, n => by
    cases r
    obtain ⟨its, rv, ⟨o, ho, hc, k, hd⟩, _⟩ := I.tuple (.inl h)
    obtain ⟨as, hr⟩ := DqAll.reads I q rv n
    exact ⟨_, .tuple ho hc hd hr⟩
  | _, _, _, .dic _ _, _, n => by cases n
  | _, _, _, .dig _ _ _ _, _, n => by cases n
  | _, _, _, .ins _ _ _, _, n => by cases n
theorem DqAll.reads (I : Inv X pins σ H s) : ∀ {vs : List V} {ds : List PyData} {us : List Value}, DqAll K H vs ds → Vals vs us → PyData.hasDictAll ds = false → ∃ as, ReadsAll s.heap us ds as
  | _, _, _, .nil, r, _ => by cases r; exact ⟨_, .nil⟩
  | _, _, _, .cons h q, r, n => by
    have n' : (PyData.hasDict _ || PyData.hasDictAll _) = false := n
    rw [Bool.or_eq_false_iff] at n'
    cases r with
    | cons r1 r2 =>
      obtain ⟨as, q1⟩ := Dq.reads I h r1 n'.1
      obtain ⟨bs, q2⟩ := DqAll.reads I q r2 n'.2
      exact ⟨_, .cons q1 q2⟩
end
end
/-! ### sorted of a list or a tuple -/
section
open PySem.W PyProof.Rows
variable {prog : Program} {w : World} {A : Around} {E : Value → Shared → Prop} {s : Shared}
theorem collect_tup {l : Addr} {vs : List Value} {P : List Value → Shared → Prop} (ht : IsTup s.heap l vs.toArray) (hz : vs.length ≤ sizeLine)
    (h : P vs { s with heap := (s.heap.push (seqObj "list" #[] 0)).update s.heap.objs.size (Obj.mapSeq (· ++ vs.toArray)) }) : wpAny (model prog w) A (collect (.ref l)) P E s := by
  obtain ⟨o, ho, hc, n, hd⟩ := id ht
  unfold collect
  refine wpAny_bind (wpAny_runValue (codeAny_builtin entry_proto_collect' ?_))
  show wpAny _ _ (do again (.builtin "list.__iadd__" ⟨[← newList [], Value.ref l], []⟩)) _ _ s
  refine wpAny_bind (wpAny_newList (wpAny_pure ⟨Code.quiet_builtin _ (by decide +kernel), codeAny_builtin entry_list_iadd' ?_⟩))
  show wpAny _ _ (Builtin.List.listExtendWith (Value.ref s.heap.objs.size) (Value.ref l) (Value.ref s.heap.objs.size)) _ _ { s with heap := s.heap.push (seqObj "list" #[] 0) }
  unfold Builtin.List.listExtendWith
  have h1 : (s.heap.push (seqObj "list" #[] 0)).get? l = some o := Heap.get?_push_of_some _ ho
  refine wpAny_bind (wpAny_typeOf (T := "tuple") ⟨o, h1, hc⟩ ?_)
  have tt : (Value.type "tuple" == Value.type "tuple") = true := rfl
  rw [if_pos (by rw [tt]; simp)]
  refine wpAny_bind (listItems_at h1 hd (wpAny_bind (listItems_at (xs := #[]) (n := 0) (Heap.get?_push_size _ rfl) rfl ?_)))
  rw [if_neg (by simp)]
  refine wpAny_bind (listUpdate_at (xs := #[]) (n := 0) (Heap.get?_push_size _ rfl) rfl (wpAny_pure ?_) (Nat.zero_le _) (by show (#[] ++ vs.toArray).size ≤ sizeLine + 1; simp only [Array.size_append, List.size_toArray, List.length_nil]; omega))
  show wpAny (model prog w) A (do
      let q ← load s.heap.objs.size
      match q.data with
      | .seq zs _ => pure zs.toList
      | _ => unsupported "internal:collect") P E { s with heap := (s.heap.push (seqObj "list" #[] 0)).update s.heap.objs.size (Obj.mapSeq (· ++ vs.toArray)) }
  refine wpAny_bind (wpAny_load (get?_update_seq (Heap.get?_push_size _ rfl) _) ?_)
  show wpAny _ _ (pure ((#[] : Array Value) ++ vs.toArray).toList) P E _
  rw [show ((#[] : Array Value) ++ vs.toArray).toList = vs by simp]
  exact wpAny_pure h
/-- as sorted_of_sort, over whatever collects so -/
theorem sorted_by {l : Addr} {vs : List Value} {P : Value → Shared → Prop} (hL : vs.length ≤ sizeLine)
    (hcol : ∀ (B : Around) (E' : Value → Shared → Prop) (R : List Value → Shared → Prop), R vs { s with heap := (s.heap.push (seqObj "list" #[] 0)).update s.heap.objs.size (Obj.mapSeq (· ++ vs.toArray)) } → wpAny (model prog w) B (collect (.ref l)) R E' s)
    (body : ∀ E' : Value → Shared → Prop, wpAny (model prog w) A.in1.in1 (Builtin.«list.sort» ⟨[Value.ref (s.heap.objs.size + 1)], []⟩) (fun f s' => f = .done (.ret Value.none) ∧ P (.ref (s.heap.objs.size + 1)) s') E' { s with heap := copyHeap s.heap vs }) :
    wpAny (model prog w) A (call (.builtin "sorted") [.ref l]) P E s := by
  refine call_function_entry_kw kind_sorted plain_sorted entry_sorted (args_sorted1 _) ?_
  unfold Builtin.«sorted»
  refine wpAny_bind (m := checkCount "sorted" 1 1 _) (wpAny_pure (wpAny_bind (hcol _ _ _ (wpAny_bind (wpAny_newList ?_ hL)))))
  have z : ((s.heap.push (seqObj "list" #[] 0)).update s.heap.objs.size (Obj.mapSeq (· ++ vs.toArray))).objs.size = s.heap.objs.size + 1 := by rw [Heap.size_update, size_push']
  show wpAny _ _ _ _ _ { s with heap := copyHeap s.heap vs }
  rw [z]
  refine wpAny_bind (wpAny_holding (wpAny_call_entry_kw slot_list_sort ⟨_, copyHeap_at s.heap vs, rfl⟩ entry_list_sort ?bdy (args_list_sort _)))
  case bdy =>
    show wpAny (model prog w) A.in1.in1 (Builtin.«list.sort» ⟨[Value.ref (s.heap.objs.size + 1)], []⟩) _ _ _
    refine wpAny_mono (body _) (fun f s' hf => ?_) fun _ _ q => q
    obtain ⟨rfl, hq⟩ := hf
    exact ⟨_, rfl, wpAny_pure ⟨_, rfl, hq⟩⟩
/-! ### tuples, the first one empty -/
open PySem.SeqAt in
theorem call_tuple_lt {Q : Value → Shared → Prop} {l b : Addr} {items items2 : Array Value} {e r : Nat → Bool} (hl : s.heap.IsTuple l items) (hb : s.heap.IsTuple b items2)
    (he : ∀ j (h1 : j < items.size) (h2 : j < items2.size), EqAt A.in1 s items[j] items2[j] (e j)) (hr : ∀ j (h1 : j < items.size) (h2 : j < items2.size), e j = false → RcLt A.in1 s items[j] items2[j] (r j))
    (h : Q (.bool (firstLt e r (decide (items.size < items2.size)) (List.range (min items.size items2.size)))) s) : wpAny (model prog w) A (call (.builtin "tuple.__lt__") [.ref l, .ref b]) Q E s := by
  obtain ⟨⟨cls, dd, data, sl⟩, ho, hc, n, hd⟩ := id hl
  obtain ⟨⟨cls2, dd2, data2, sl2⟩, ho2, hc2, n2, hd2⟩ := id hb
  simp only at hc hd hc2 hd2
  subst hc hd hc2 hd2
  exact call_meets F.slot_tuple_lt ⟨_, ho, rfl⟩ F.entry_tuple_lt (F.args_tuple_lt_2 _ _) (tuple_ltAt l b items items2 n n2 dd dd2 sl sl2 e r) ⟨ho, ho2, he, hr, h⟩
open PySem.SeqAt in
theorem oneLt_tup {xs ys : List PyData} {a b : Value} {as bs : List Addr} {Q : Bool → Shared → Prop} (ra : Reads s.heap a (.tuple xs) as) (rb : Reads s.heap b (.tuple ys) bs) (h : alike (.tuple xs) (.tuple ys) = true)
    (hu : A.units + min (PyData.tuple xs).depth (PyData.tuple ys).depth < cLine) (hq : Q (dataLt (.tuple xs) (.tuple ys)) s) : wpAny (model prog w) A (oneLt' true a b) Q E s := by
  have hal : alikeAll xs ys = true := by simpa [alike] using h
  cases ra with
  | @tuple l o vs n _ as₁ h1 h2 h3 h4 =>
    cases rb with
    | @tuple l' o' vs' n' _ bs₁ k1 k2 k3 k4 =>
      have n1 : vs.size = xs.length := by simpa using ReadsAll.length _ _ _ h4
      have n2 : vs'.size = ys.length := by simpa using ReadsAll.length _ _ _ k4
      rw [dataLt_tuple, ← firstLt_toks xs ys hal, ← n1, ← n2] at hq
      rw [oneLt'_eq]
      simp only [if_true]
      refine wpAny_bind (wpAny_cRoomFor (room_here hu) ?_)
      refine wpAny_bind (wpAny_callSpecialIfBound?_slot (T := "tuple") ⟨_, h1, h2⟩ F.slot_tuple_lt (call_tuple_lt (e := pairEq xs ys) (r := fun j => dataLt (xs.getD j .none) (ys.getD j .none)) ⟨_, h1, h2, _, h3⟩ ⟨_, k1, k2, _, k3⟩ (fun j j1 j2 => ?_) (fun j j1 j2 hj => ?_) ?_))
      · have := eqAt_alikeAll xs ys A.in1 s vs.toList vs'.toList _ _ h4 k4 hal (room_in hu) j (by simpa using j1) (by simpa using j2)
        simpa using this
      · have := rcLt_alikeAll xs ys A.in1 s vs.toList vs'.toList _ _ h4 k4 hal (room_in hu) j (by simpa using j1) (by simpa using j2) hj
        simpa using this
      · exact wpAny_truthy_bool hq
/-- all are tuples, the first is empty -/
def Sort0 (ds : List PyData) : Prop := (∀ d, d ∈ ds → ∃ xs, d = .tuple xs) ∧ ds.head? = some (.tuple [])
theorem firsts_any {M : Model} : ∀ {vs : List Value} {ds : List PyData} {Q : List (Option Value) → Shared → Prop}, EachIs (fun v d => ∃ as, Reads s.heap v d as) vs ds → (∀ d, d ∈ ds → ∃ xs, d = .tuple xs) → (∀ fs, (∀ r, ds = .tuple [] :: r → ∃ t, fs = none :: t) → Q fs s) → wpAny M A (vs.mapM firstOfTuple') Q E s
  | _, _, Q, .nil, _, h => by
    rw [List.mapM_nil]; exact wpAny_pure (h [] fun r e => by cases e)
  | _, _, Q, .cons (b := d) (as := vs) ⟨as, r⟩ t, hd, h => by
    rw [List.mapM_cons]
    obtain ⟨xs, rfl⟩ := hd d (List.mem_cons_self ..)
    cases r with
    | @tuple a o ys n _ _ ho hc hdt hr =>
      rw [kas_first_eq]
      refine wpAny_bind (wpAny_bind ((looks_reads (M := M) (.tuple ho hc hdt hr)).here ?_))
      rw [if_neg (by show ¬ ((Value.type "tuple" != Value.type "tuple") = true); decide)]
      refine wpAny_bind (listItems_at ho hdt (wpAny_pure ?_))
      refine wpAny_bind (firsts_any t (fun d hm => hd d (List.mem_cons_of_mem _ hm)) fun fs _ => wpAny_pure (h _ fun r e => ?_))
      cases e
      have : ys.toList = [] := by
        cases q : ys.toList with
        | nil => rfl
        | cons z zs => rw [q] at hr; cases hr
      exact ⟨fs, by rw [← Array.getElem?_toList, this]; rfl⟩
theorem SortsAt.data0 {vs : List Value} {ds : List PyData} (e : EachIs (fun v d => ∃ as, Reads s.heap v d as) vs ds) (hal : AllAlike ds) (hk : Sortable ds ∨ Sort0 ds) (hu : ∀ d, d ∈ ds → A.units + d.depth < cLine) : SortsAt prog w A s (dataKind s.heap ds) vs := by
  rcases hk with hk | ⟨ht, h0⟩
  · exact SortsAt.data e hal hk hu
  · refine ⟨fun v hv => ?_, oneType', ?_, fun h2 E Q hq => ?_⟩
    · obtain ⟨d, hd, as, r⟩ := e.left v hv
      exact ⟨_, dataKind_some hal hd r⟩
    · intro E x y a b Q ha hb hq
      obtain ⟨d, as, hd, ra, rfl⟩ := dataKind_inv ha
      obtain ⟨d', as', hd', rb, rfl⟩ := dataKind_inv hb
      rw [keyLt'_oneType]
      have hdd := hal d hd d' hd'
      have hroom : A.units + min d.depth d'.depth < cLine := Nat.lt_of_le_of_lt (Nat.add_le_add_left (Nat.min_le_left _ _) _) (hu d hd)
      obtain ⟨xs, rfl⟩ := ht d hd
      obtain ⟨ys, rfl⟩ := ht d' hd'
      exact oneLt_tup ra rb hdd hroom hq
    · cases e with
      | nil => simp at h2
      | @cons v d vs' ds' r t =>
        cases h0
        rw [keyKind'_eq, List.mapM_toArray, map_eq_pure_bind]
        refine wpAny_bind (wpAny_bind (firsts_any (.cons r t) ht fun fs hf => wpAny_pure ?_))
        obtain ⟨t', rfl⟩ := hf _ rfl
        rw [if_neg (by simp), if_neg (by simp)]
        rw [oneTypeOnly'_eq, List.mapM_toArray, map_eq_pure_bind]
        have hT : ∀ u ∈ v :: vs', Looks (model prog w) s.heap (typeOf u) (Value.type "tuple") := fun u hu' => by
          obtain ⟨d, hd, as, r⟩ := EachIs.left (EachIs.cons r t) u hu'
          obtain ⟨xs, rfl⟩ := ht d hd
          exact looks_reads r
        refine wpAny_bind (wpAny_bind (wpAny_bind (kas_mapM (r := Value.type "tuple") _ (fun v hv Q' hq => (hT v hv).here hq) (wpAny_pure ?_))))
        have hall : ((List.map (fun _ => Value.type "tuple") (v :: vs')).toArray.all fun x => x == Value.type "tuple") = true := by
          simp only [List.all_toArray, List.all_map, List.all_eq_true]
          intro _ _
          rfl
        have h0 : (List.map (fun _ => Value.type "tuple") (v :: vs')).toArray[0]? = some (Value.type "tuple") := by simp
        rw [h0]
        simp only [hall, if_true]
        exact wpAny_pure (wpAny_pure hq)
theorem sorted_dat {l : Addr} {vs : List Value} {ds : List PyData} {R : Value → PyData → Prop} {P : Value → Shared → Prop} (hL : ds.length ≤ sizeLine)
    (hcol : ∀ (B : Around) (E' : Value → Shared → Prop) (R : List Value → Shared → Prop), R vs { s with heap := (s.heap.push (seqObj "list" #[] 0)).update s.heap.objs.size (Obj.mapSeq (· ++ vs.toArray)) } → wpAny (model prog w) B (collect (.ref l)) R E' s)
    (e : EachIs R vs ds) (er : EachIs (fun v d => ∃ as, Reads s.heap v d as) vs ds) (hal : AllAlike ds) (hk : Sortable ds ∨ Sort0 ds) (hu : ∀ d, d ∈ ds → A.units + 2 + d.depth < cLine)
    (h : ∀ out, out.length = ds.length → EachIs R out (ds.mergeSort (dataLe false id)) → P (.ref (s.heap.objs.size + 1)) { s with heap := sortedAll s.heap vs (List.toArray out) }) :
    wpAny (model prog w) A (call (.builtin "sorted") [.ref l]) P E s := by
  have hl : vs.length = ds.length := e.length
  have er2 : EachIs (fun v d => ∃ as, Reads (sortingHeap (copyHeap s.heap vs) (s.heap.objs.size + 1) vs) v d as) vs ds := er.mono fun _ _ ⟨as, r⟩ => ⟨as, PyProof.Rows.Reads.keeps (fun _ _ => sorting_copy_old) r⟩
  have S := SortsAt.data0 (prog := prog) (w := w) (A := A.in1.in1) (s := { s with heap := sortingHeap (copyHeap s.heap vs) (s.heap.objs.size + 1) vs }) er2 hal hk hu
  have mid : ds.map id = ds := List.map_id ds
  refine sorted_by (by rw [hl]; exact hL) hcol fun _ => list_sort_vals (s := { s with heap := copyHeap s.heap vs }) (copyHeap_at s.heap vs) S (by rw [hl]; exact hL) ⟨rfl, ?_⟩
  have key := sortVals_data (h' := sortingHeap (copyHeap s.heap vs) (s.heap.objs.size + 1) vs) (enc := id) (R := R) false e er2 (by rw [mid]; exact hal)
  rw [mid] at key
  exact h _ (by rw [sortVals_length false rfl]; exact hl) key
end
end Cp
/-! Cp4: calls of built-in functions. -/
namespace Cp
open PySem L2
section
variable {X : Cx} {C : Cn} {Q : VK} {μ : Mu} {F H : Hp} {st : Sto} {e a b c : Expr} {m ma mb mc : Ev} {pos p : Pos} {es : List Expr} {mas : En → Sto → Res (List Vl)} {x : Str} {id T : String}
def CallOk (C : Cn) (r : List V → Hp → VK → Prop) (g : Sto → List Vl → Option Rv) : Prop :=
  ∀ (xs : List Vl) (res : Rv) (vs : List V) (μ : Mu) (F H : Hp) (st : Sto) (Q : VK), SR C.K μ F H st → VokAll C.K F μ xs vs → g st xs = some res → PostE C Q μ F H (.ok res st) → r vs H Q
def mCal (g : Sto → List Vl → Option Rv) (ma : En → Sto → Res (List Vl)) : Ev := fun ρ st => (ma ρ st).bind fun xs s => match g s xs with
  | some r => .ok r s
  | none => .no
theorem s_args {r : List V → Hp → VK → Prop} {g : Sto → List Vl → Option Rv} (h : PE X e (tCB r (tAs C mas))) (ok : CallOk C r g) : PE X e (tM C (mCal g mas)) :=
  h.imp fun σ H Q ⟨ρ, st, μ, F, h1, h2, h3⟩ => ⟨ρ, st, μ, F, h1, h2, Post.bindA gE_lat h3 fun x s v μ1 F1 H1 x1 r1 k1 h4 => by
    cases q : g s x with
    | none => simp only [q] at h4; exact False.elim h4
    | some res => simp only [q] at h4; exact ok x res v μ1 F1 H1 s _ r1 k1 q h4⟩
theorem s_callB {r : List V → Hp → VK → Prop} {g : Sto → List Vl → Option Rv} (hc : CallR X (.builtin id) r) (ok : CallOk C r g) (hg : Gl X x) (hm : X.mg x = none) (hv : bootBuiltins x = some (.builtin id)) (ha : PA X (e :: es) (tAs C mas)) (hn : x ≠ "__name__" := by decide) (hdb : (x == ("__debug__" : Str)) = false := by decide)
    (he : starEach (e :: es) X.env = (false, eval e X.env) :: starEach es X.env := by rfl) (hpl : (backTo pos (starEach es X.env)).any (·.1) = false := by rfl) : PE X (.Call (.Name x p) (e :: es) [] pos) (tM C (mCal g mas)) := s_args (pe_callB hc hg hm hv ha hn hdb he hpl) ok
theorem s_callTy {r : List V → Hp → VK → Prop} {g : Sto → List Vl → Option Rv} (hc : CallR X (.type T) r) (ok : CallOk C r g) (hg : Gl X x) (hm : X.mg x = none) (hv : bootBuiltins x = some (.type T)) (ha : PA X (e :: es) (tAs C mas)) (hn : x ≠ "__name__" := by decide) (hdb : (x == ("__debug__" : Str)) = false := by decide)
    (he : starEach (e :: es) X.env = (false, eval e X.env) :: starEach es X.env := by rfl) (hpl : (backTo pos (starEach es X.env)).any (·.1) = false := by rfl) : PE X (.Call (.Name x p) (e :: es) [] pos) (tM C (mCal g mas)) := s_args (pe_callTy hc hg hm hv ha hn hdb he hpl) ok
theorem VokAll.one {K : Kw} {y : Vl} {vs : List V} (h : VokAll K F μ [y] vs) : ∃ v, vs = [v] ∧ Vok K F μ y v := by cases h with | cons h r => cases r; exact ⟨_, rfl, h⟩
theorem VokAll.two {K : Kw} {y z : Vl} {vs : List V} (h : VokAll K F μ [y, z] vs) : ∃ v u, vs = [v, u] ∧ Vok K F μ y v ∧ Vok K F μ z u := by
  cases h with
  | cons h r =>
    cases r with
    | cons h2 r => cases r; exact ⟨_, _, rfl, h, h2⟩
/-- a function of one value's content -/
def g1 (f : PyData → Option Rv) : Sto → List Vl → Option Rv
  | s, [y] => match view s y with
    | some d => f d
    | none => none
  | _, _ => none
theorem g1_ok {r : List V → Hp → VK → Prop} {f : PyData → Option Rv}
    (h : ∀ (d : PyData) (res : Rv) (v : V) (μ : Mu) (F H : Hp) (st : Sto) (Q : VK), SR C.K μ F H st → Vw C.K F H v d → f d = some res → PostE C Q μ F H (.ok res st) → r [v] H Q) : CallOk C r (g1 f) := by
  intro xs res vs μ F H st Q s k e p
  unfold g1 at e
  split at e
  · obtain ⟨v, rfl, hv⟩ := k.one
    split at e
    · rename_i hq
      exact h _ res v μ F H _ Q s (view_ok s hv hq) e p
    · cases e
  · cases e
/-- .. of two ints -/
def gII (f : Int → Int → Int) : Sto → List Vl → Option Rv
  | _, [.d (.int i), .d (.int j)] => some (.d (.int (f i j)))
  | _, _ => none
theorem gII_ok {r : List V → Hp → VK → Prop} {f : Int → Int → Int} (h : ∀ (i j : Int) (H : Hp) (Q : VK), Q (.int (f i j)) H → r [.int i, .int j] H Q) : CallOk C r (gII f) := by
  intro xs res vs μ F H st Q s k e p
  unfold gII at e
  split at e
  · obtain ⟨v, u, rfl, hv, hu⟩ := k.two
    cases e
    cases (show Dq C.K F v (.int _) from hv)
    cases (show Dq C.K F u (.int _) from hu)
    exact h _ _ H Q (fin_d s p (.int _))
  · cases e
def fAbs : PyData → Option Rv
  | .int i => some (.d (.int (if i < 0 then -i else i)))
  | _ => none
theorem c_abs : CallR X (.builtin "abs") (fun xs H Q => ∃ i, xs = [.int i] ∧ Q (.int (if i < 0 then -i else i)) H) ∧ CallOk C (fun xs H Q => ∃ i, xs = [.int i] ∧ Q (.int (if i < 0 then -i else i)) H) (g1 fAbs) :=
  ⟨call_abs, g1_ok fun d res v μ F H st Q s w e p => by
    cases d with
    | int i => cases e; exact ⟨i, by rw [w.int], fin_d s p (.int _)⟩
    | _ => cases e⟩
/-- len -/
def fLen : PyData → Option Rv
  | .str y => if y.length ≤ sizeLine then some (.d (.int y.length)) else none
  | .list xs => some (.d (.int xs.length))
  | .tuple xs => some (.d (.int xs.length))
  | _ => none
def gLen : Sto → List Vl → Option Rv
  | _, [.s ns] => some (.d (.int ns.length))
  | s, xs => g1 fLen s xs
theorem gLen_ok (hK : C.K = X.K) : CallOk C (fun xs H Q => ∃ x n, xs = [x] ∧ LenV X.K x H n ∧ Q (.int n) H) gLen := by
  intro xs res vs μ F H st Q s k e p
  unfold gLen at e
  split at e
  · obtain ⟨v, rfl, q, rfl, hq⟩ := k.one
    cases e
    exact ⟨_, _, rfl, .inl ⟨_, hK ▸ s.sub.seq hq, by rw [List.length_map]⟩, fin_d s p (.int _)⟩
  · refine g1_ok (C := C) (r := fun xs H Q => ∃ x n, xs = [x] ∧ LenV X.K x H n ∧ Q (.int n) H) (fun d res v μ F H st Q s w e p => ?_) xs res vs μ F H _ Q s k e p
    cases d with
    | str y =>
      simp only [fLen] at e
      split at e
      · cases e; exact ⟨_, _, rfl, by rw [w.str]; exact ⟨by assumption, rfl⟩, fin_d s p (.int _)⟩
      · cases e
    | list ys =>
      cases e
      obtain ⟨q, zs, rfl, q1, q2⟩ := w
      exact ⟨_, _, rfl, .inl ⟨zs, SqL.of q1, q2.length.symm⟩, fin_d s p (.int _)⟩
    | tuple ys =>
      cases e
      obtain ⟨q, zs, rfl, q1, q2⟩ := w.tup
      exact ⟨_, _, rfl, .inr ⟨zs, SqT.rd s.sub q1, q2.length.symm⟩, fin_d s p (.int _)⟩
    | _ => cases e
/-- int of an int, a bool -/
def fInt : PyData → Option Rv
  | .int i => some (.d (.int i))
  | .bool k => some (.d (.int (if k then 1 else 0)))
  | _ => none
theorem fInt_ok : CallOk C (fun xs H Q => (∃ i, xs = [.int i] ∧ Q (.int i) H) ∨ ∃ k, xs = [.bl k] ∧ Q (.int (if k then 1 else 0)) H) (g1 fInt) := g1_ok fun d res v μ F H st Q s w e p => by
  cases d with
  | int i => cases e; exact .inl ⟨i, by rw [w.int], fin_d s p (.int _)⟩
  | bool i => cases e; exact .inr ⟨i, by rw [w.bl], fin_d s p (.int _)⟩
  | _ => cases e
/-- str of an int -/
def fStr : PyData → Option Rv
  | .int i => if i.natAbs.log2 < 1920 then some (.d (.str (toString i))) else none
  | _ => none
/-- lists of ints, of bools -/
def intsD : List PyData → Option (List Int)
  | [] => some []
  | .int i :: r => (intsD r).map (i :: ·)
  | _ :: _ => none
def boolsD : List PyData → Option (List Bool)
  | [] => some []
  | .bool i :: r => (boolsD r).map (i :: ·)
  | _ :: _ => none
theorem intsD_ok {K : Kw} : ∀ {vs : List V} {ds : List PyData} {ns : List Int}, DqAll K F vs ds → intsD ds = some ns → vs = ns.map V.int
  | _, _, _, .nil, e => by cases e; rfl
  | _, d :: ds, _, .cons h r, e => by
    cases d with
    | int i =>
      obtain ⟨ms, hm, rfl⟩ := Option.map_eq_some_iff.mp (show (intsD ds).map (i :: ·) = _ from e)
      cases h
      rw [intsD_ok r hm]; rfl
    | _ => cases e
theorem intsD_map (ns : List Int) : intsD (ns.map PyData.int) = some ns := by
  induction ns with
  | nil => rfl
  | cons n ns ih => show (intsD (ns.map PyData.int)).map (n :: ·) = _; rw [ih]; rfl
def fSum : PyData → Option Rv
  | .list xs => (intsD xs).map fun ns => .d (.int ns.sum)
  | _ => none
theorem fSum_ok {K : PySem.W.Frag} : CallOk C (rSum K) (g1 fSum) := g1_ok fun d res v μ F H st Q s w e p => by
  cases d with
  | list ys =>
    obtain ⟨ns, hn, rfl⟩ := Option.map_eq_some_iff.mp (show (intsD ys).map _ = _ from e)
    obtain ⟨q, zs, rfl, q1, q2⟩ := w
    exact ⟨q, ns, rfl, SqL.of (by rw [← intsD_ok q2 hn]; exact q1), fin_d s p (.int _)⟩
  | _ => cases e
def fTuple : PyData → Option Rv
  | .list xs => some (.d (.tuple xs))
  | .tuple xs => some (.d (.tuple xs))
  | _ => none
theorem fTuple_ok {K : PySem.W.Frag} : CallOk C (fun xs H Q => ∃ p ys, xs = [.ref p] ∧ ((SqL K H p ys ∧ ∀ l, H l = none → Q (.ref l) (upd H l (.tup ys))) ∨ (SqT K H p ys ∧ Q (.ref p) H))) (g1 fTuple) := g1_ok fun d res v μ F H st Q s w e p => by
  cases d with
  | list ys => cases e; obtain ⟨q, zs, rfl, q1, q2⟩ := w; exact ⟨q, zs, rfl, .inl ⟨SqL.of q1, fun l hl => fin_t s p hl q2⟩⟩
  | tuple ys => cases e; obtain ⟨q, zs, rfl, q1, q2⟩ := w.tup; exact ⟨q, zs, rfl, .inr ⟨SqT.rd s.sub q1, fin_d s p (.tup q1 q2)⟩⟩
  | _ => cases e
end
/-! ### sorted -/
section
open PySem.W PyProof.Rows
/-- data that can be ordered -/
def Srt (ds : List PyData) : Prop := AllAlike ds ∧ (Sortable ds ∨ Sort0 ds) ∧ ∀ d, d ∈ ds → d.depth ≤ 60
open Classical in
noncomputable def fSorted (a : PyData) : Option Rv := match itemsD a with
  | some ds => if Srt ds then some (.n (.l (ds.mergeSort (dataLe false fun d => d)))) else none
  | none => none
def rSrtD : List V → Hp → VK → Prop := fun vs H Q => ∃ (K : Kw) (F : Hp) (a : Addr) (xs : List V) (ds : List PyData), vs = [V.ref a] ∧ (H a = some (.lst xs) ∨ Rd H a (.tup xs)) ∧ Same F H ∧ DqAll K F xs ds ∧ Srt ds ∧
  ∀ ys p, DqAll K F ys (ds.mergeSort (dataLe false fun d => d)) → H p = none → Q (.ref p) (upd H p (.lst ys))
variable {X : Cx} {C : Cn}
mutual
theorem alike_noDict : ∀ d : PyData, alike d d = true → d.hasDict = false
  | .none, _ => rfl
  | .bool _, _ => rfl
  | .int _, _ => rfl
  | .str _, _ => rfl
  | .list xs, h => alike_noDicts xs (by simpa [alike] using h)
  | .tuple xs, h => alike_noDicts xs (by simpa [alike] using h)
  | .dict _, h => by simp [alike] at h
theorem alike_noDicts : ∀ xs : List PyData, alikeAll xs xs = true → PyData.hasDictAll xs = false
  | [], _ => rfl
  | x :: xs, h => by
    rw [alikeAll, Bool.and_eq_true] at h
    show (x.hasDict || PyData.hasDictAll xs) = false
    rw [alike_noDict x h.1, alike_noDicts xs h.2]; rfl
end
theorem EachIs.memd {R : Value → PyData → Prop} : ∀ {us : List Value} {ds : List PyData}, EachIs R us ds → EachIs (fun v d => R v d ∧ d ∈ ds) us ds
  | _, _, .nil => .nil
  | _, _, .cons h t => .cons ⟨h, List.mem_cons_self ..⟩ ((EachIs.memd t).mono fun _ _ ⟨a, b⟩ => ⟨a, List.mem_cons_of_mem _ b⟩)
theorem each_dq {K : Kw} {F : Hp} : ∀ {xs : List V} {us : List Value} {ds : List PyData}, DqAll K F xs ds → Vals xs us → EachIs (fun v d => ∃ x, RelV x v ∧ Dq K F x d) us ds
  | _, _, _, .nil, r => by cases r; exact .nil
  | _, _, _, .cons h q, r => by
    cases r with
    | cons r1 r2 => exact .cons ⟨_, r1, h⟩ (each_dq q r2)
theorem of_each {K : Kw} {F : Hp} : ∀ {us : List Value} {ds : List PyData}, EachIs (fun v d => ∃ x, RelV x v ∧ Dq K F x d) us ds → ∃ ys, Vals ys us ∧ DqAll K F ys ds
  | _, _, .nil => ⟨[], .nil, .nil⟩
  | _, _, .cons ⟨x, h1, h2⟩ t => by
    obtain ⟨ys, k1, k2⟩ := of_each t
    exact ⟨x :: ys, .cons h1 k1, .cons h2 k2⟩
theorem cr_srt (hu : X.A.units + 64 < cLine) : CallR X (.builtin "sorted") rSrtD := by
  intro pins s σ H vs us Q I r h
  obtain ⟨K, F, a, xs, ds, rfl, ha, sm, hd, ⟨s1, s2, s3⟩, q⟩ := h
  rw [Vals.ref1 r]
  obtain ⟨its, rv, hz, col⟩ : ∃ its : List Value, Vals xs its ∧ xs.length ≤ sizeLine ∧ ∀ (B : Around) (E' : Value → Shared → Prop) (R : List Value → Shared → Prop), R its { s with heap := (s.heap.push (seqObj "list" #[] 0)).update s.heap.objs.size (Obj.mapSeq (· ++ its.toArray)) } → wpAny (model X.prog X.w) B (collect (.ref a)) R E' s := by
    rcases ha with ha | ha
    · obtain ⟨its, rv, hl, hz⟩ := I.list (SqL.of ha)
      exact ⟨its, rv, hz, fun B E' R hr => collect_list hl.isList hr (by rw [← rv.length]; exact hz)⟩
    · obtain ⟨its, rv, hl, hz⟩ := I.tuple (.inl ha)
      exact ⟨its, rv, hz, fun B E' R hr => collect_tup hl (by rw [← rv.length]; exact hz) hr⟩
  have hlen : its.length = ds.length := by rw [← rv.length, hd.length]
  have er : EachIs (fun v d => ∃ as, Reads s.heap v d as) its ds := (EachIs.memd (each_dq hd rv)).mono fun v d ⟨⟨x, h1, h2⟩, hm⟩ => (h2.same sm).reads I h1 (alike_noDict d (s1 d hm d hm))
  refine sorted_dat (R := fun v d => ∃ x, RelV x v ∧ Dq K F x d) (by rw [← hd.length]; exact hz) col (each_dq hd rv) er s1 s2 (fun d hm => by have := s3 d hm; omega) fun out ho eo => ?_
  obtain ⟨ys, k1, k2⟩ := of_each eo
  obtain ⟨ep, he⟩ := sortedAll_at s.heap its (List.toArray out)
  refine ⟨.ref _, upd H (s.heap.objs.size + 1) (.lst ys), I.laid (t' := s.toks) (fun _ _ => sortedAll_old) (Nat.le_succ _) ⟨?_, out, ep, k1, he⟩, rfl, q ys _ k2 (I.hok.fresh (Nat.le_succ _))⟩
  rw [k1.length, ho, ← hd.length]; exact hz
theorem fSorted_ok : CallOk C rSrtD (g1 fSorted) := g1_ok fun d res v μ F H st Q s w e p => by
  unfold fSorted at e
  cases d with
  | list ys =>
    simp only [itemsD] at e
    split at e
    · cases e
      obtain ⟨q, zs, rfl, q1, q2⟩ := w
      exact ⟨C.K, F, q, zs, ys, rfl, .inl q1, s.sub, q2, by assumption, fun ws l k hl => fin_n s p hl ⟨_, rfl, k⟩⟩
    · cases e
  | tuple ys =>
    simp only [itemsD] at e
    split at e
    · cases e
      obtain ⟨q, zs, rfl, q1, q2⟩ := w.tup
      exact ⟨C.K, F, q, zs, ys, rfl, .inr (same_rd s.sub q1), s.sub, q2, by assumption, fun ws l k hl => fin_n s p hl ⟨_, rfl, k⟩⟩
    · cases e
  | _ => cases e
end
/-! ### repr -/
section
mutual
def noLst : PyData → Bool
  | .list xs => noLstA xs
  | .tuple xs => noLstA xs
  | .dict kvs => flK kvs && noLstK kvs
  | _ => true
def noLstA : List PyData → Bool
  | [] => true
  | x :: xs => noLst x && noLstA xs
def noLstK : List (PyData × PyData) → Bool
  | [] => true
  | (_, x) :: xs => noLst x && noLstK xs
end
variable {X : Cx} {C : Cn} {pins : List (Addr × Obj)} {σ : St} {H F : Hp} {s : Shared} {K : Kw}
/-- the table of modules is a dict -/
def SysK (K : PySem.W.Frag) : Prop := ∃ o es n, K.lookup sysModules = some o ∧ o.data = .dict es n
mutual
theorem Dq.sys (hS : SysK X.K) (I : Inv X pins σ H s) : ∀ {v : V} {d : PyData} {u : Value}, Dq K H v d → RelV v u → noLst d = true → ∃ as, Reads s.heap u d as ∧ sysModules ∉ as
  | _, _, _, .non, r, _ => by cases r; exact ⟨_, .none, by simp⟩
  | _, _, _, .bl b, r, _ => by cases r; exact ⟨_, .bool b, by simp⟩
  | _, _, _, .int i, r, _ => by obtain ⟨t, rfl⟩ := r; exact ⟨_, .int i t, by simp⟩
  | _, _, _, .str x, r, _ => by obtain ⟨t, rfl⟩ := r; exact ⟨_, .str x t, by simp⟩
  | _, _, _, .lst (a := a) h q, r, n => by
    cases r
    obtain ⟨its, rv, ⟨o, k, ho, hc, _, hd⟩, _⟩ := I.list (SqL.of h)
    obtain ⟨as, hr, hs⟩ := DqAll.sys hS I q rv (by simpa [noLst] using n)
    refine ⟨_, .list ho hc hd hr, ?_⟩
    rw [List.mem_cons, not_or]
    refine ⟨fun e => ?_, hs⟩
    subst e
    obtain ⟨o', es, m, g1, g2⟩ := hS
    rw [I.kIn _ _ g1] at ho
    cases ho
    rw [g2] at hd; cases hd
  | _, _, _, .tup h q, r, n => by
    cases r
    obtain ⟨its, rv, ⟨o, ho, hc, n', hd⟩, _⟩ := I.tuple (.inl h)
    obtain ⟨as, hr, hs⟩ := DqAll.sys hS I q rv (by simpa [noLst] using n)
    exact ⟨_, .tuple ho hc hd hr, hs⟩
  | _, _, _, .dic h q, r, n => by
    cases r
    obtain ⟨_, na, vs, kv, hd⟩ := I.hok _ _ h
    have n' : (flK _ && noLstK _) = true := n
    rw [Bool.and_eq_true] at n'
    obtain ⟨bs, p, hs⟩ := DqKv.sys hS I q kv n'.2
    refine ⟨_, PyProof.V.reads_dictOf (fun k v e => key_reads k v e) hd p, ?_⟩
    rw [List.mem_cons, not_or]
    exact ⟨fun e => by rw [← e] at na; simp at na, hs⟩
  | _, _, _, .dig h q _ z, r, n => by
    have n' : (flK _ && noLstK _) = true := n
    rw [Bool.and_eq_true] at n'
    cases q with
    | nil => exact absurd rfl z
    | cons g _ _ _ _ =>
      have f := n'.1
      unfold flK at f
      rw [List.all_cons, Bool.and_eq_true] at f
      cases g <;> exact absurd f.1 Bool.false_ne_true
  | _, _, _, .ins _ _ _, _, n => by cases n
theorem DqAll.sys (hS : SysK X.K) (I : Inv X pins σ H s) : ∀ {vs : List V} {ds : List PyData} {us : List Value}, DqAll K H vs ds → Vals vs us → noLstA ds = true → ∃ as, ReadsAll s.heap us ds as ∧ sysModules ∉ as
  | _, _, _, .nil, r, _ => by cases r; exact ⟨_, .nil, by simp⟩
  | _, _, _, .cons h q, r, n => by
    rw [noLstA, Bool.and_eq_true] at n
    cases r with
    | cons r1 r2 =>
      obtain ⟨as, q1, s1⟩ := Dq.sys hS I h r1 n.1
      obtain ⟨bs, q2, s2⟩ := DqAll.sys hS I q r2 n.2
      exact ⟨_, .cons q1 q2, by rw [List.mem_append, not_or]; exact ⟨s1, s2⟩⟩
theorem DqKv.sys (hS : SysK X.K) (I : Inv X pins σ H s) : ∀ {ws : List (Key × V)} {kvs : List (PyData × PyData)} {us : List (Key × Value)}, DqKv K H ws kvs → KV ws us → noLstK kvs = true → ∃ bs, PyProof.V.PairsRead s.heap kD us kvs bs ∧ sysModules ∉ bs
  | _, _, _, .nil, r, _ => by cases r; exact ⟨_, .nil, by simp⟩
  | _, _, _, .cons h q, r, n => by
    rw [noLstK, Bool.and_eq_true] at n
    cases r with
    | cons r1 r2 =>
      obtain ⟨k', v'⟩ := ‹Key × Value›
      obtain ⟨e, r1⟩ := r1
      cases e
      obtain ⟨as, q1, s1⟩ := Dq.sys hS I h r1 n.1
      obtain ⟨bs, q2, s2⟩ := DqKv.sys hS I q r2 n.2
      exact ⟨_, .cons q1 q2, by rw [List.mem_append, not_or]; exact ⟨s1, s2⟩⟩
end
/-- what can be shown -/
def shw (d : PyData) : Bool := d.showable && (!d.hasDict || noLst d) && decide (d.shown.length ≤ sizeLine) && decide (d.depth ≤ 60)
def fRepr (d : PyData) : Option Rv := if shw d then some (.d (.str d.shown)) else none
def rRepr : List V → Hp → VK → Prop := fun vs H Q => ∃ (K : Kw) (v : V) (d : PyData), vs = [v] ∧ Dq K H v d ∧ shw d = true ∧ Q (.str d.shown) H
theorem cr_repr (hS : SysK X.K) (hu : X.A.units + 64 < cLine) (hg : X.A.guards = some []) : CallR X (.builtin "repr") rRepr := by
  intro pins s σ H vs us Q I r h
  obtain ⟨K, v, d, rfl, hd, hs, q⟩ := h
  obtain ⟨u, rfl, ru⟩ := vals1 r
  unfold shw at hs
  simp only [Bool.and_eq_true, Bool.or_eq_true, decide_eq_true_eq, Bool.not_eq_true'] at hs
  obtain ⟨⟨⟨h1, h2⟩, h3⟩, h4⟩ := hs
  obtain ⟨as, hr, hm⟩ : ∃ as, Reads s.heap u d as ∧ (d.hasDict = true → sysModules ∉ as) := by
    rcases h2 with h2 | h2
    · obtain ⟨as, hr⟩ := hd.reads I ru h2
      exact ⟨as, hr, fun z => by rw [h2] at z; cases z⟩
    · obtain ⟨as, hr, hz⟩ := hd.sys hS I ru h2
      exact ⟨as, hr, fun _ => hz⟩
  have go : ∀ a, u = Value.ref a → wpAny (model X.prog X.w) X.A (call (.builtin "repr") [u]) (EP X pins σ Q) X.xe s := fun a e => by
    subst e
    exact PySem.repr_of_reads' hr h1 hm hg (by omega) (fun _ _ e => e) (fun h' t tk hk => ⟨.str d.shown, H, I.kept hk, ⟨t, rfl⟩, q⟩) h3
  cases hd with
  | non => cases ru; exact PySem.P.repr_of_none ⟨.str "None", H, I.tok _, ⟨_, rfl⟩, by simpa [PyData.shown] using q⟩
  | bl b => cases ru; exact PySem.P.repr_of_bool ⟨.str (if b then "True" else "False"), H, I.tok _, ⟨_, rfl⟩, by simpa [PyData.shown] using q⟩
  | int i =>
    obtain ⟨t, rfl⟩ := ru
    exact PySem.P.repr_of_int (by simpa [PyData.showable] using h1) ⟨.str (toString i), H, I.tok _, ⟨_, rfl⟩, by simpa [PyData.shown] using q⟩
  | str x =>
    obtain ⟨t, rfl⟩ := ru
    exact PySem.P.repr_of_str ⟨.str (reprText x), H, I.tok _, ⟨_, rfl⟩, by simpa [PyData.shown] using q⟩ (by simpa [PyData.shown] using h3)
  | lst _ _ => exact go _ ru
  | tup _ _ => exact go _ ru
  | dic _ _ => exact go _ ru
  | dig _ _ _ _ => exact go _ ru
  | ins _ _ _ => exact go _ ru
theorem fRepr_ok : CallOk C rRepr (g1 fRepr) := g1_ok fun d res v μ F H st Q s w e p => by
  unfold fRepr at e
  split at e
  · cases e; exact ⟨C.K, v, d, rfl, w.dq s.sub, by assumption, fin_d s p (.str _)⟩
  · cases e
end
end Cp
/-! Cp5: statements. -/
namespace Cp
open PySem L2
/-- how a statement ends -/
inductive RS where
  | nx (ρ : En) (s : Sto)
  | bk (ρ : En) (s : Sto)
  | ct (ρ : En) (s : Sto)
  | rt (r : Rv) (s : Sto)
  | er (e : Er) (s : Sto)
  | no
abbrev Sv := En → Sto → RS
def gN (C : Cn) (P : St → Hp → Prop) (ρ : En) (st : Sto) (μ : Mu) (F H : Hp) : Prop := ∀ σ' μ' F' H', Ext μ F H μ' F' H' → SR C.K μ' F' H' st → Eok C.K F' μ' ρ σ' → P σ' H'
def PostS (C : Cn) (D : Ends) (μ : Mu) (F H : Hp) : RS → Prop
  | .nx ρ s => gN C D.nx ρ s μ F H
  | .bk ρ s => gN C D.bk ρ s μ F H
  | .ct ρ s => gN C D.ct ρ s μ F H
  | .rt r s => gE C D.rt r s μ F H
  | .er e s => Erw C μ F H e s
  | .no => False
def tS (C : Cn) (m : Sv) : TS := fun D σ H => At C σ H fun ρ st μ F => PostS (C.at σ) D μ F H (m ρ st)
section
variable {X : Cx} {C : Cn} {Q : VK} {μ μ1 : Mu} {F H F1 H1 : Hp} {st : Sto} {e a b c : Expr} {m ma mb mc : Ev} {pos p : Pos} {es : List Expr} {D : Ends} {s t : Stmt} {ss : List Stmt} {sa sb : Sv}
theorem gN.later {P : St → Hp → Prop} {ρ : En} (x : Ext μ F H μ1 F1 H1) (h : gN C P ρ st μ F H) : gN C P ρ st μ1 F1 H1 := fun σ' μ' F' H' y s k => h σ' μ' F' H' (x.trans y) s k
theorem PostS.later {r : RS} (x : Ext μ F H μ1 F1 H1) (h : PostS C D μ F H r) : PostS C D μ1 F1 H1 r := by
  cases r with
  | nx ρ s => exact gN.later x h
  | bk ρ s => exact gN.later x h
  | ct ρ s => exact gN.later x h
  | rt r s => exact gE_lat.it x h
  | er e s => exact Erw.later x h
  | no => exact h
theorem _root_.L2.PS.imp {t' u : TS} (h : PS X s t') (w : ∀ D σ H, u D σ H → t' D σ H) : PS X s u := ⟨fun pins s σ H D I h' => h.run pins s σ H D I (w D σ H h')⟩
theorem _root_.L2.PSs.imp {t' u : TS} (h : PSs X ss t') (w : ∀ D σ H, u D σ H → t' D σ H) : PSs X ss u := ⟨fun pins s σ H D I h' => h.run pins s σ H D I (w D σ H h')⟩
/-- what a sub-meaning gives, then a statement's rest -/
@[reducible] def Res.toS {α : Type} (r : Res α) (k : α → Sto → RS) : RS := match r with
  | .ok a s => k a s
  | .er e s => .er e s
  | .no => .no
theorem PostS.bindV {m : Res Vl} {k : Vl → Sto → RS} {Q : VK} (h : PostS C D μ F H (m.toS k))
    (hk : ∀ x s v μ1 F1 H1, Ext μ F H μ1 F1 H1 → SR C.K μ1 F1 H1 s → Vok C.K F1 μ1 x v → PostS C D μ1 F1 H1 (k x s) → Q v H1) : PostV C Q μ F H m := by
  cases m with
  | ok x s => exact fun v μ1 F1 H1 e s1 o => hk x s v μ1 F1 H1 e s1 o (PostS.later e h)
  | er e s => exact h
  | no => exact h
theorem PostS.bindE {m : Res Rv} {k : Rv → Sto → RS} {Q : VK} (h : PostS C D μ F H (m.toS k))
    (hk : ∀ x s v μ1 F1 H1, Out C.K μ F H s x v μ1 F1 H1 → PostS C D μ F H (k x s) → Q v H1) : PostE C Q μ F H m := by
  cases m with
  | ok x s => exact fun v μ1 F1 H1 o => hk x s v μ1 F1 H1 o h
  | er e s => exact h
  | no => exact h
theorem PostS.bindB {m : Res Bool} {k : Bool → Sto → RS} {Q : Bool → Hp → Prop} (h : PostS C D μ F H (m.toS k))
    (hk : ∀ x s μ1 F1 H1, Ext μ F H μ1 F1 H1 → SR C.K μ1 F1 H1 s → PostS C D μ1 F1 H1 (k x s) → Q x H1) : PostB C Q μ F H m := by
  cases m with
  | ok x s => exact fun μ1 F1 H1 e s1 => hk x s μ1 F1 H1 e s1 (PostS.later e h)
  | er e s => exact h
  | no => exact h
theorem PostS.bindA {m : Res (List Vl)} {k : List Vl → Sto → RS} {Q : List V → Hp → Prop} (h : PostS C D μ F H (m.toS k))
    (hk : ∀ x s v μ1 F1 H1, Ext μ F H μ1 F1 H1 → SR C.K μ1 F1 H1 s → VokAll C.K F1 μ1 x v → PostS C D μ1 F1 H1 (k x s) → Q v H1) : PostA C Q μ F H m := by
  cases m with
  | ok x s => exact fun v μ1 F1 H1 e s1 o => hk x s v μ1 F1 H1 e s1 o (PostS.later e h)
  | er e s => exact h
  | no => exact h
theorem Erw.flat {σ σ' : St} (fl : C.Flat) {e : Er} {st : Sto} (h : Erw (C.at σ) μ F H e st) : Erw (C.at σ') μ F H e st := fun cls dd μ' F' H' x s o => fl _ _ _ _ _ (h cls dd μ' F' H' x s o)
theorem PostS.flat {σ σ' : St} (fl : C.Flat) {r : RS} (h : PostS (C.at σ) D μ F H r) : PostS (C.at σ') D μ F H r := by
  cases r with
  | er e s => exact Erw.flat fl h
  | nx ρ s => exact h
  | bk ρ s => exact h
  | ct ρ s => exact h
  | rt r s => exact h
  | no => exact h
/-! ### blocks -/
def sNil : Sv := fun ρ st => .nx ρ st
def sSeq (x y : Sv) : Sv := fun ρ st => match x ρ st with
  | .nx ρ' s => y ρ' s
  | r => r
theorem x_nil : PSs X [] (tS C sNil) := pss_nil.imp fun D σ H ⟨ρ, st, μ, F, h1, h2, h3⟩ => h3 σ μ F H Ext.refl h2 h1
theorem x_cons (ha : PS X s (tS C sa)) (hb : PSs X ss (tS C sb)) (fl : C.Flat := by exact fun _ _ _ _ _ h => h) : PSs X (s :: ss) (tS C (sSeq sa sb)) := (pss_cons ha hb).imp fun D σ H ⟨ρ, st, μ, F, h1, h2, h3⟩ => ⟨ρ, st, μ, F, h1, h2, by
  show PostS (C.at σ) { D with nx := tS C sb D } μ F H (sa ρ st)
  simp only [sSeq] at h3
  cases q : sa ρ st with
  | nx ρ' s' =>
    simp only [q] at h3
    exact fun σ' μ' F' H' x r k => ⟨ρ', s', μ', F', k, r, PostS.flat fl (PostS.later x h3)⟩
  | bk ρ' s' => simp only [q] at h3; exact h3
  | ct ρ' s' => simp only [q] at h3; exact h3
  | rt r s' => simp only [q] at h3; exact h3
  | er r s' => simp only [q] at h3; exact h3
  | no => simp only [q] at h3; exact h3⟩
theorem x_one (ha : PS X s (tS C sa)) : PSs X [s] (tS C sa) := pss_one ha
theorem x_no : PSs X ss (tS C fun _ _ => .no) := ⟨fun pins s σ H D I ⟨ρ, st, μ, F, h1, h2, h3⟩ => False.elim h3⟩
def sExp (m : Ev) : Sv := fun ρ st => (m ρ st).toS fun _ s => .nx ρ s
theorem x_expr (h : PE X e (tM C m)) (hs : swapsWith e none pos.line X.env = pure false := by rfl) : PS X (.Expr e pos) (tS C (sExp m)) := (ps_expr h hs).imp fun D σ H ⟨ρ, st, μ, F, h1, h2, h3⟩ =>
  ⟨ρ, st, μ, F, h1, h2, PostS.bindE h3 fun x s v μ1 F1 H1 o h4 => h4 σ μ1 F1 H1 o.ext o.sr (h1.ext o.ext)⟩
def sRet (m : Ev) : Sv := fun ρ st => (m ρ st).toS fun r s => .rt r s
theorem x_ret (h : PE X e (tM C m)) : PS X (.Return (some e) pos) (tS C (sRet m)) := (ps_ret h).imp fun D σ H ⟨ρ, st, μ, F, h1, h2, h3⟩ => ⟨ρ, st, μ, F, h1, h2, PostS.bindE h3 fun x s v μ1 F1 H1 o h4 => h4 v μ1 F1 H1 o⟩
def sRetN : Sv := fun _ st => .rt (.d .none) st
def sIf (c : En → Sto → Res Bool) (x y : Sv) : Sv := fun ρ st => (c ρ st).toS fun k s => if k = true then x ρ s else y ρ s
theorem x_if {bc : En → Sto → Res Bool} {A B : List Stmt} (hc : PT X c (tT C bc)) (ha : PSs X A (tS C sa)) (hb : PSs X B (tS C sb)) : PS X (.If c A B pos) (tS C (sIf bc sa sb)) := (ps_if hc ha hb).imp fun D σ H ⟨ρ, st, μ, F, h1, h2, h3⟩ =>
  ⟨ρ, st, μ, F, h1, h2, PostS.bindB h3 fun k s μ1 F1 H1 x r h4 => by
    cases k with
    | true => simp only [if_true] at h4 ⊢; exact ⟨ρ, s, μ1, F1, h1.ext x, r, h4⟩
    | false => simp only [Bool.false_eq_true, if_false] at h4 ⊢; exact ⟨ρ, s, μ1, F1, h1.ext x, r, h4⟩⟩
/-! ### targets: where a value goes; the slots ws alone change -/
def Agr (ws : List Nat) (σ σ' : St) : Prop := σ'.length = σ.length ∧ ∀ j, j ∉ ws → σ'[j]? = σ[j]?
abbrev Gm := Vl → En → Sto → Res En
abbrev gG (C : Cn) (ws : List Nat) (σ : St) (P : St → Hp → Prop) : En → Sto → Mu → Hp → Hp → Prop := fun ρ st μ F H => ∀ σ' μ' F' H', Ext μ F H μ' F' H' → SR C.K μ' F' H' st → Eok C.K F' μ' ρ σ' → Agr ws σ σ' → P σ' H'
theorem gG_lat {ws : List Nat} {σ : St} {P : St → Hp → Prop} : Lat (gG C ws σ P) := ⟨fun x h σ' μ' F' H' y s k => h σ' μ' F' H' (x.trans y) s k⟩
def tG (C : Cn) (ws : List Nat) (g : Gm) : TG := fun v σ H P => ∃ ρ st μ F x, Eok C.K F μ ρ σ ∧ SR C.K μ F H st ∧ Vok C.K F μ x v ∧ Post (C.at σ) (gG C ws σ P) μ F H (g x ρ st)
theorem _root_.L2.PG.imp {tg : Expr} {t u : TG} (h : PG X tg t) (w : ∀ v σ H Q, u v σ H Q → t v σ H Q) : PG X tg u := ⟨fun pins s σ H v u Q I r h' => h.run pins s σ H v u Q I r (w v σ H Q h')⟩
def gNm (i : Nat) : Gm := fun x ρ st => .ok (ρ.set i (some x)) st
theorem eok_set {K : Kw} {ρ : En} {σ : St} {i : Nat} {x : Vl} {v : V} (h : Eok K F μ ρ σ) (k : Vok K F μ x v) : Eok K F μ (ρ.set i (some x)) (σ.set i (some v)) := by
  refine ⟨by simp [h.1], fun j y e => ?_⟩
  by_cases hj : i = j
  · subst hj
    have hi : i < ρ.length := by
      have := (List.getElem?_eq_some_iff.mp e).1
      simpa using this
    rw [List.getElem?_set_self hi] at e
    cases e
    exact ⟨v, by rw [List.getElem?_set_self (by rw [← h.1]; exact hi)], k⟩
  · rw [List.getElem?_set_ne hj] at e
    obtain ⟨w, h1, h2⟩ := h.2 j y e
    exact ⟨w, by rw [List.getElem?_set_ne hj]; exact h1, h2⟩
theorem agr_set {i : Nat} {σ : St} {v : Option V} : Agr [i] σ (σ.set i v) := ⟨by simp, fun j h => List.getElem?_set_ne (fun e => h (by simp [e]))⟩
theorem t_name {i : Nat} {tg : Expr} (h : PG X tg (gName i)) : PG X tg (tG C [i] (gNm i)) := h.imp fun v σ H Q ⟨ρ, st, μ, F, x, h1, h2, h3, h4⟩ => h4 _ μ F H Ext.refl h2 (eok_set h1 h3) agr_set
/-- several, from a tuple -/
abbrev Gms := List PyData → En → Sto → Res En
def gNil9 : Gms := fun ds ρ st => match ds with
  | [] => .ok ρ st
  | _ :: _ => .no
def gCons9 (g : Gm) (r : Gms) : Gms := fun ds ρ st => match ds with
  | [] => .no
  | d :: ds => (g (.d d) ρ st).bind fun ρ' s => r ds ρ' s
def tGs (C : Cn) (ws : List Nat) (g : Gms) : TGs := fun vs σ H P => ∃ ρ st μ F ds, Eok C.K F μ ρ σ ∧ SR C.K μ F H st ∧ DqAll C.K F vs ds ∧ Post (C.at σ) (gG C ws σ P) μ F H (g ds ρ st)
theorem _root_.L2.PGs.imp {tg : List Expr} {t u : TGs} (h : PGs X tg t) (w : ∀ v σ H Q, u v σ H Q → t v σ H Q) : PGs X tg u := ⟨fun pins s σ H v u Q I r h' => h.run pins s σ H v u Q I r (w v σ H Q h')⟩
theorem t_nil : PGs X [] (tGs C [] gNil9) := pgs_nil.imp fun v σ H Q ⟨ρ, st, μ, F, ds, h1, h2, h3, h4⟩ => by
  cases h3 with
  | nil => exact ⟨rfl, h4 σ μ F H Ext.refl h2 h1 ⟨rfl, fun _ _ => rfl⟩⟩
  | cons _ _ => exact False.elim h4
theorem t_cons {tg : Expr} {tgs : List Expr} {ws ws' : List Nat} {g : Gm} {r : Gms} (h : PG X tg (tG C ws g)) (hr : PGs X tgs (tGs C ws' r)) (hs : (assignEach (tg :: tgs) X.env).map (·.2) = assign tg X.env :: (assignEach tgs X.env).map (·.2) := by rfl) (fl : C.Flat := by exact fun _ _ _ _ _ h => h) :
    PGs X (tg :: tgs) (tGs C (ws ++ ws') (gCons9 g r)) := (pgs_cons h hr hs).imp fun v σ H Q ⟨ρ, st, μ, F, ds, h1, h2, h3, h4⟩ => by
  cases h3 with
  | nil => exact False.elim h4
  | @cons v' vs' d' ds' k kr =>
    refine ⟨_, _, rfl, ρ, st, μ, F, .d d', h1, h2, k, ?_⟩
    have h4 : Post (C.at σ) (gG C (ws ++ ws') σ Q) μ F H ((g (.d d') ρ st).bind fun ρ' s => r ds' ρ' s) := h4
    cases q : g (.d d') ρ st with
    | no => rw [q] at h4; exact h4
    | er e s => rw [q] at h4; exact h4
    | ok ρ1 s1 =>
      rw [q] at h4
      intro σ1 μ1 F1 H1 x1 r1 k1 a1
      refine ⟨ρ1, s1, μ1, F1, ds', k1, r1, kr.same x1.same, ?_⟩
      have h5 := Post.later gG_lat x1 (show Post (C.at σ) (gG C (ws ++ ws') σ Q) μ F H (r ds' ρ1 s1) from h4)
      have wk : ∀ {ρ' s'}, gG C (ws ++ ws') σ Q ρ' s' μ1 F1 H1 → gG C ws' σ1 Q ρ' s' μ1 F1 H1 := fun {ρ' s'} z σ2 μ2 F2 H2 x2 r2 k2 a2 => z σ2 μ2 F2 H2 x2 r2 k2 ⟨a2.1.trans a1.1, fun j hj => by
        rw [List.mem_append, not_or] at hj
        rw [a2.2 j hj.2, a1.2 j hj.1]⟩
      cases q2 : r ds' ρ1 s1 with
      | no => rw [q2] at h5; exact h5
      | er e s => rw [q2] at h5; exact Erw.flat fl h5
      | ok ρ2 s2 => rw [q2] at h5; exact wk h5
def gTp (n : Nat) (r : Gms) : Gm := fun x ρ st => match x with
  | .d (.tuple ds) => if ds.length = n then r ds ρ st else .no
  | _ => .no
theorem t_tup {k : Nat} {ws : List Nat} {r : Gms} {n : Nat} (hc : X.calm = true) (h : PGs X es (tGs C ws r)) (hn : (assignEach es X.env).length = n := by rfl) (hst : (assignEach es X.env).findIdx? (·.1) = none := by rfl) : PG X (.Tuple es k pos) (tG C ws (gTp n r)) :=
  (pg_tup hc h hn hst).imp fun v σ H Q ⟨ρ, st, μ, F, x, h1, h2, h3, h4⟩ => by
    cases x with
    | c i => exact False.elim h4
    | s i => exact False.elim h4
    | o i => exact False.elim h4
    | d x =>
      cases x with
      | tuple ds =>
        cases (show Dq C.K F v (.tuple ds) from h3) with
        | tup q1 q2 =>
          simp only [gTp] at h4
          split at h4
          · rename_i hl
            exact ⟨_, _, rfl, SqT.rd h2.sub q1, by rw [q2.length]; exact hl, ρ, st, μ, F, ds, h1, h2, q2, h4⟩
          · exact False.elim h4
      | _ => exact False.elim h4
/-- a list's place -/
def gPl (mo mi : Ev) : Gm := fun x ρ st => match x with
  | .d d => (mV mo ρ st).bind fun o s1 => (mV mi ρ s1).bind fun i s2 => match o, i with
    | .c k, .d (.int j) => match s2[k]? with
      | some (.l xs) => match ixN xs.length j with
        | some n => .ok ρ (s2.set k (.l (xs.set n d)))
        | none => .no
      | _ => .no
    | _, _ => .no
  | _ => .no
theorem t_pl {o i : Expr} {mo mi : Ev} (ho : PE X o (tM C mo)) (hi : PE X i (tM C mi))
    (ha : ∀ v, assign (.Subscript o i pos) X.env v = (do
      let ov ← holding [v] (eval o X.env)
      let iv ← holding [v, ov] (eval i X.env)
      standAt pos
      holding [v, ov, iv] (setItem ov iv v)
      release [v, ov, iv] []) := by intro _; rfl) : PG X (.Subscript o i pos) (tG C [] (gPl mo mi)) :=
  (pg_sub (pv_frz ho) (pv_frz hi) set_list ha).imp fun v σ H Q ⟨ρ, st, μ, F, x, h1, h2, h3, h4⟩ => by
    cases x with
    | c i => exact False.elim h4
    | s i => exact False.elim h4
    | o i => exact False.elim h4
    | d d =>
      have h4 : Post (C.at σ) (gG C [] σ Q) μ F H ((mV mo ρ st).bind fun o s1 => (mV mi ρ s1).bind fun i s2 => match o, i with
        | .c k, .d (.int j) => match s2[k]? with
          | some (.l xs) => match ixN xs.length j with
            | some n => .ok ρ (s2.set k (.l (xs.set n d)))
            | none => .no
          | _ => .no
        | _, _ => .no) := h4
      refine ⟨ρ, st, μ, F, h1, h2, Post.bindV gG_lat h4 fun o s1 vo μ1 F1 H1 x1 r1 k1 h5 => ⟨ρ, s1, μ1, F1, h1.ext x1, r1, Post.bindV gG_lat h5 fun i s2 vi μ2 F2 H2 x2 r2 k2 h6 => ?_⟩⟩
      have k1 := k1.ext x2
      cases o with
      | d _ => exact False.elim h6
      | s _ => exact False.elim h6
      | o _ => exact False.elim h6
      | c k =>
        cases i with
        | c _ => exact False.elim h6
        | s _ => exact False.elim h6
        | o _ => exact False.elim h6
        | d i =>
          cases i with
          | int j =>
            cases q : s2[k]? with
            | none => simp only [q] at h6; exact False.elim h6
            | some cl =>
              cases cl with
              | m _ => simp only [q] at h6; exact False.elim h6
              | l xs =>
                cases q2 : ixN xs.length j with
                | none => simp only [q, q2] at h6; exact False.elim h6
                | some n =>
                  simp only [q, q2] at h6
                  obtain ⟨p, hp, rfl⟩ := k1
                  obtain ⟨p', o', g1, g2, ys, rfl, g3⟩ := r2.cell k _ q
                  rw [hp] at g1; cases g1
                  cases (show Dq C.K F2 vi (.int j) from k2)
                  have dv : Dq C.K F2 v d := Dq.same (x1.trans x2).same h3
                  obtain ⟨w1, w2⟩ := r2.write (c := .l (xs.set n d)) (o := .lst (ys.set n v)) hp ⟨_, rfl, g3.set dv n⟩ q
                  exact ⟨p, ys, j, n, rfl, rfl, g2, by rw [g3.length]; exact q2, h6 σ μ2 F2 _ w2 w1 (((h1.ext x1).ext x2).ext w2) ⟨rfl, fun _ _ => rfl⟩⟩
          | _ => exact False.elim h6
/-- target = value -/
def sAsg (g : Gm) (mv : En → Sto → Res Vl) : Sv := fun ρ st => (mv ρ st).toS fun x s => (g x ρ s).toS fun ρ' s' => .nx ρ' s'
theorem x_asg {tg : Expr} {ws : List Nat} {g : Gm} {mv : En → Sto → Res Vl} (he : PE X e (tV C mv)) (hg : PG X tg (tG C ws g)) (hs : swapsWithSole [tg] e pos.line X.env = pure false := by rfl) (hw : swappedStores [tg] e X.env = pure none := by rfl)
    (h1 : (assignEach [tg] X.env).map (·.2) = [assign tg X.env] := by rfl) : PS X (.Assign [tg] e pos) (tS C (sAsg g mv)) := (ps_asg he hg hs hw h1).imp fun D σ H ⟨ρ, st, μ, F, h1, h2, h3⟩ =>
  ⟨ρ, st, μ, F, h1, h2, PostS.bindV h3 fun x s v μ1 F1 H1 x1 r1 k1 h4 => ⟨ρ, s, μ1, F1, x, h1.ext x1, r1, k1, by
    cases q : g x ρ s with
    | no => rw [q] at h4; exact h4
    | er e' s' => rw [q] at h4; exact h4
    | ok ρ' s' => rw [q] at h4; exact fun σ' μ' F' H' y r k _ => h4 σ' μ' F' H' y r k⟩⟩
/-- name = [..] (a comprehension on one line): ps_setLc's form -/
theorem x_asgLc {i : Nat} {t : TE} {mv : En → Sto → Res Vl} (h : PS X s (tAsg t (gName i))) (w : ∀ σ H Q, tV C mv σ H Q → t σ H Q) : PS X s (tS C (sAsg (gNm i) mv)) := h.imp fun D σ H ⟨ρ, st, μ, F, h1, h2, h3⟩ => w σ H _
  ⟨ρ, st, μ, F, h1, h2, PostS.bindV h3 fun x s v μ1 F1 H1 x1 r1 k1 h4 => h4 _ μ1 F1 H1 Ext.refl r1 (eok_set (h1.ext x1) k1)⟩
/-- two, three names at once -/
def sPar (is : List Nat) (ma : En → Sto → Res (List Vl)) : Sv := fun ρ st => (ma ρ st).toS fun xs s => match is, xs with
  | [i, j], [x, y] => .nx ((ρ.set i (some x)).set j (some y)) s
  | [i, j, l], [x, y, z] => .nx (((ρ.set i (some x)).set j (some y)).set l (some z)) s
  | _, _ => .no
variable {mas : En → Sto → Res (List Vl)}
theorem x_par {i j : Nat} (h : PS X s (tPar i j (tAs C mas))) : PS X s (tS C (sPar [i, j] mas)) := h.imp fun D σ H ⟨ρ, st, μ, F, h1, h2, h3⟩ => ⟨ρ, st, μ, F, h1, h2, PostS.bindA h3 fun xs s vs μ1 F1 H1 x1 r1 k1 h4 => by
  match xs, k1, h4 with
  | [], _, h4 => exact False.elim h4
  | [_], _, h4 => exact False.elim h4
  | [x, y], k1, h4 =>
    obtain ⟨v, u, rfl, hv, hu⟩ := k1.two
    exact ⟨v, u, rfl, h4 _ μ1 F1 H1 Ext.refl r1 (eok_set (eok_set (h1.ext x1) hv) hu)⟩
  | _ :: _ :: _ :: _, _, h4 => exact False.elim h4⟩
end
end Cp
/-! Cp6: lists that change, what is walked, for, while, comprehensions. -/
namespace Cp
open PySem L2
section
variable {X : Cx} {C : Cn} {Q : VK} {μ μ1 : Mu} {F H F1 H1 : Hp} {st : Sto} {e a b c o tg iter : Expr} {m mo ma mb mc : Ev} {pos p apos cpos : Pos} {es : List Expr} {D : Ends} {s t : Stmt} {ss body : List Stmt} {sa sb : Sv}
/-! ### methods of a list that changes -/
def lstAt (s : Sto) (x : Vl) : Option (List PyData) := match x with
  | .c k => match s[k]? with
    | some (.l xs) => some xs
    | _ => none
  | _ => none
theorem lstAt_get {k : Nat} {xs : List PyData} (e : lstAt st (.c k) = some xs) : st[k]? = some (.l xs) := by
  simp only [lstAt] at e
  split at e
  · rename_i h; cases e; exact h
  · cases e
theorem lstAt_ok {K : Kw} {x : Vl} {v : V} {xs : List PyData} (s : SR K μ F H st) (k : Vok K F μ x v) (e : lstAt st x = some xs) : ∃ i p ys, x = .c i ∧ v = .ref p ∧ μ.l[i]? = some p ∧ H p = some (.lst ys) ∧ DqAll K F ys xs := by
  cases x with
  | d _ => cases e
  | s _ => cases e
  | o _ => cases e
  | c i =>
    obtain ⟨p, hp, rfl⟩ := k
    simp only [lstAt] at e
    cases q : st[i]? with
    | none => simp only [q] at e; cases e
    | some cl =>
      cases cl with
      | m _ => simp only [q] at e; cases e
      | l zs =>
        simp only [q] at e; cases e
        obtain ⟨p', o', g1, g2, ys, rfl, g3⟩ := s.cell i _ q
        rw [hp] at g1; cases g1
        exact ⟨i, p, ys, rfl, rfl, hp, g2, g3⟩
def fApp (xs : List PyData) (d : PyData) : Option (List PyData) := if xs.length < sizeLine then some (xs ++ [d]) else none
def fExt (xs : List PyData) (d : PyData) : Option (List PyData) := match d with
  | .list ys => if xs.length + ys.length ≤ sizeLine then some (xs ++ ys) else none
  | _ => none
/-- x.append(e): e is data (a cell would be shared) -/
def mApp (mo ma : Ev) : Ev := fun ρ st => (mV mo ρ st).bind fun x s1 => match lstAt s1 x with
  | none => .no
  | some _ => (mV ma ρ s1).bind fun y s2 => match x, lstAt s2 x, y with
    | .c k, some xs, .d d => match fApp xs d with
      | some zs => .ok (.d .none) (s2.set k (.l zs))
      | none => .no
    | _, _, _ => .no
theorem s_app (h : PE X e (tBM X.K "list" rAppend (tV C (mV mo)) (tCons (tV C (mV ma)) tNil))) : PE X e (tM C (mApp mo ma)) :=
  h.imp fun σ H Q ⟨ρ, st, μ, F, h1, h2, h3⟩ => ⟨ρ, st, μ, F, h1, h2, Post.bindV gE_lat h3 fun x s v μ1 F1 H1 x1 r1 k1 h4 => by
    cases q : lstAt s x with
    | none => simp only [q] at h4; exact False.elim h4
    | some zs =>
      simp only [q] at h4
      obtain ⟨i, pp, ys, rfl, rfl, g1, g2, g3⟩ := lstAt_ok r1 k1 q
      refine ⟨.inl ⟨rfl, _, SqL.of g2⟩, ρ, s, μ1, F1, h1.ext x1, r1, Post.bindV gE_lat h4 fun y s2 u μ2 F2 H2 x2 r2 k2 h5 => ?_⟩
      have k1' := k1.ext x2
      cases q2 : lstAt s2 (.c i) with
      | none => simp only [q2] at h5; exact False.elim h5
      | some ws =>
        cases y with
        | c _ => simp only [q2] at h5; exact False.elim h5
        | s _ => simp only [q2] at h5; exact False.elim h5
        | o _ => simp only [q2] at h5; exact False.elim h5
        | d d =>
          obtain ⟨i', pp', ys', e1, e2, g1', g2', g3'⟩ := lstAt_ok r2 k1' q2
          cases e1
          cases e2
          simp only [q2, fApp] at h5
          split at h5
          · rename_i zz hz
            split at hz
            · cases hz
              obtain ⟨w1, w2⟩ := r2.write (c := .l (ws ++ [d])) (o := .lst (ys' ++ [u])) g1' ⟨_, rfl, g3'.app (.cons k2 .nil)⟩ (lstAt_get q2)
              exact ⟨_, _, _, rfl, rfl, g2', by rw [g3'.length]; assumption, h5 .non _ _ _ ⟨w2, w1, .non, fun _ z => nomatch z⟩⟩
            · cases hz
          · exact False.elim h5⟩
def mExt (mo ma : Ev) : Ev := fun ρ st => (mV mo ρ st).bind fun x s1 => match lstAt s1 x with
  | none => .no
  | some _ => (mV ma ρ s1).bind fun y s2 => match x, lstAt s2 x, view s2 y with
    | .c k, some xs, some d => match fExt xs d with
      | some zs => .ok (.d .none) (s2.set k (.l zs))
      | none => .no
    | _, _, _ => .no
theorem s_ext (h : PE X e (tBM X.K "list" rExtend (tV C (mV mo)) (tCons (tV C (mV ma)) tNil))) : PE X e (tM C (mExt mo ma)) :=
  h.imp fun σ H Q ⟨ρ, st, μ, F, h1, h2, h3⟩ => ⟨ρ, st, μ, F, h1, h2, Post.bindV gE_lat h3 fun x s v μ1 F1 H1 x1 r1 k1 h4 => by
    cases q : lstAt s x with
    | none => simp only [q] at h4; exact False.elim h4
    | some zs =>
      simp only [q] at h4
      obtain ⟨i, pp, ys, rfl, rfl, g1, g2, g3⟩ := lstAt_ok r1 k1 q
      refine ⟨.inl ⟨rfl, _, SqL.of g2⟩, ρ, s, μ1, F1, h1.ext x1, r1, Post.bindV gE_lat h4 fun y s2 u μ2 F2 H2 x2 r2 k2 h5 => ?_⟩
      have k1' := k1.ext x2
      cases q2 : lstAt s2 (.c i) with
      | none => simp only [q2] at h5; exact False.elim h5
      | some ws =>
        cases q3 : view s2 y with
        | none => simp only [q2, q3] at h5; exact False.elim h5
        | some d =>
          obtain ⟨i', pp', ys', e1, e2, g1', g2', g3'⟩ := lstAt_ok r2 k1' q2
          cases e1
          cases e2
          have vw := view_ok r2 k2 q3
          cases d with
          | list ds =>
            obtain ⟨pb, zs', rfl, b1, b2⟩ := vw
            simp only [q2, q3, fExt] at h5
            split at h5
            · rename_i zz hz
              split at hz
              · cases hz
                obtain ⟨w1, w2⟩ := r2.write (c := .l (ws ++ ds)) (o := .lst (ys' ++ zs')) g1' ⟨_, rfl, g3'.app b2⟩ (lstAt_get q2)
                exact ⟨_, _, _, _, rfl, rfl, g2', b1, by rw [g3'.length, b2.length]; assumption, h5 .non _ _ _ ⟨w2, w1, .non, fun _ z => nomatch z⟩⟩
              · cases hz
            · exact False.elim h5
          | _ => simp only [q2, q3, fExt] at h5; exact False.elim h5⟩
def mPop (mo : Ev) : Ev := fun ρ st => (mV mo ρ st).bind fun x s1 => match x, lstAt s1 x with
  | .c k, some xs => match xs[xs.length - 1]? with
    | some d => .ok (.d d) (s1.set k (.l xs.dropLast))
    | none => .no
  | _, _ => .no
theorem DqAll.dropLast {K : Kw} {vs : List V} {ds : List PyData} (h : DqAll K F vs ds) : DqAll K F vs.dropLast ds.dropLast := by
  rw [List.dropLast_eq_take, List.dropLast_eq_take, h.length]
  exact h.take _
/-! ### what is walked -/
def Grd (g : Option (Nat × List PyData)) (ds : List PyData) (st : Sto) : Prop := match g with
  | none => True
  | some k => st[k.1]? = some (.l k.2)
/-- what data and cells lean on stands -/
structure Sx (μ : Mu) (F : Hp) (μ' : Mu) (F' : Hp) : Prop where
  same : Same F F'
  pre : ∃ r, μ'.l = μ.l ++ r
  preη : ∃ r, μ'.η = μ.η ++ r
theorem Ext.sx (x : Ext μ F H μ1 F1 H1) : Sx μ F μ1 F1 := ⟨x.same, x.pre, x.preη⟩
theorem Sx.refl : Sx μ F μ F := ⟨Same.refl F, ⟨[], by simp⟩, ⟨[], by simp⟩⟩
theorem Sx.trans {μ2 : Mu} {F2 : Hp} (x : Sx μ F μ1 F1) (y : Sx μ1 F1 μ2 F2) : Sx μ F μ2 F2 := by
  obtain ⟨r, e⟩ := x.pre
  obtain ⟨r', e'⟩ := y.pre
  obtain ⟨q, k⟩ := x.preη
  obtain ⟨q', k'⟩ := y.preη
  exact ⟨x.same.trans y.same, ⟨r ++ r', by rw [e', e, List.append_assoc]⟩, ⟨q ++ q', by rw [k', k, List.append_assoc]⟩⟩
theorem Sx.get (a : Sx μ F μ1 F1) {i : Nat} {x : Addr} (h : μ.l[i]? = some x) : μ1.l[i]? = some x := by
  obtain ⟨r, e⟩ := a.pre
  rw [e, List.getElem?_append_left (List.getElem?_eq_some_iff.mp h).1]
  exact h
/-- the thing J walks the data ds, while what stood stands (and the cell g holds them still) -/
structure Wk (KK : Kw) (J : It) (ds : List PyData) (g : Option (Nat × List PyData)) (μ : Mu) (F : Hp) : Prop where
  go : ∀ (i : Nat) (μ1 : Mu) (F1 H1 : Hp) (st1 : Sto) (d : PyData), Sx μ F μ1 F1 → SR KK μ1 F1 H1 st1 → Grd g ds st1 → ds[i]? = some d →
    J.go i H1 ∧ ∀ x H2, J.yld i H1 x H2 → ∃ F2, Ext μ1 F1 H1 μ1 F2 H2 ∧ SR KK μ1 F2 H2 st1 ∧ Dq KK F2 x d
  stop : ∀ (μ1 : Mu) (F1 H1 : Hp) (st1 : Sto), Sx μ F μ1 F1 → SR KK μ1 F1 H1 st1 → Grd g ds st1 → J.stop ds.length H1
abbrev Src := List PyData × Option (Nat × List PyData)
abbrev gW (C : Cn) (R : It → Hp → Prop) : Src → Sto → Mu → Hp → Hp → Prop := fun dg st μ F H => ∀ J μ' F' H', Ext μ F H μ' F' H' → SR C.K μ' F' H' st → Wk C.K J dg.1 dg.2 μ' F' → R J H'
theorem gW_lat {R : It → Hp → Prop} : Lat (gW C R) := ⟨fun x h J μ' F' H' y s w => h J μ' F' H' (x.trans y) s w⟩
def tI (C : Cn) (mi : En → Sto → Res Src) : TI := fun σ H R => At C σ H fun ρ st μ F => Post (C.at σ) (gW C R) μ F H (mi ρ st)
theorem _root_.L2.PI.imp {t u : TI} (h : PI X tg iter t) (w : ∀ σ H R, u σ H R → t σ H R) : PI X tg iter u := ⟨fun pins s σ H R I h' => h.run pins s σ H R I (w σ H R h')⟩
/-- a list, a tuple, a text -/
def iSeq (K : PySem.W.Frag) (te : TE) : TI := fun σ H R => te σ H fun v H1 => (∃ q xs, v = .ref q ∧ SqL K H1 q xs ∧ R (Itl K q) H1) ∨ (∃ q xs, v = .ref q ∧ SqT K H1 q xs ∧ R (Itt K q) H1) ∨ ∃ z, v = .str z ∧ R (Its z) H1
theorem pi_seq {te : TE} (h : PE X e te) : PI X tg e (iSeq X.K te) := by
  refine ⟨fun pins s σ H R I hw => thn (h.run pins s σ H _ I hw) fun u s1 ⟨v, H1, I1, rv, q⟩ => ?_⟩
  rcases q with ⟨q, xs, rfl, hq, hr⟩ | ⟨q, xs, rfl, hq, hr⟩ | ⟨z, rfl, hr⟩
  · obtain ⟨its, r2, pl, _⟩ := I1.list hq
    cases rv
    exact PySem.wpAny_pyIter_list pl.isList (pi_one (tk := s1.toks) I1 _ (turn_list q _) ⟨_, Heap.get?_push_size _ rfl, rfl, rfl⟩ hr)
  · obtain ⟨its, r2, pl, _⟩ := I1.tuple hq
    cases rv
    exact PySem.wpAny_pyIter_tuple (show s1.heap.IsTuple q its.toArray from pl) (pi_one (tk := s1.toks) I1 _ (turn_tuple q _) ⟨_, Heap.get?_push_size _ rfl, rfl, rfl⟩ hr)
  · obtain ⟨t, rfl⟩ := rv
    cases hw : z.cps.all (· < 128)
    · exact wpAny_pyIter_wide hw (pi_one (tk := s1.toks) I1 _ (turn_str _ z t "str_iterator" (.inr rfl)) ⟨_, Heap.get?_push_size _ rfl, rfl, rfl⟩ hr)
    · exact wpAny_pyIter_ascii hw (pi_one (tk := s1.toks) I1 _ (turn_str _ z t "str_ascii_iterator" (.inl rfl)) ⟨_, Heap.get?_push_size _ rfl, rfl, rfl⟩ hr)
def signs (z : Str) : List PyData := z.cps.toList.map fun c => .str ⟨#[c]⟩
def srcOf (s : Sto) (x : Vl) : Option Src := match x with
  | .c k => match s[k]? with
    | some (.l xs) => some (xs, some (k, xs))
    | _ => none
  | .d (.list xs) => some (xs, none)
  | .d (.tuple xs) => some (xs, none)
  | .d (.str z) => some (signs z, none)
  | .o (.tp xs) => some (xs, none)
  | _ => none
def okO {α : Type} (o : Option α) (s : Sto) : Res α := match o with
  | some k => .ok k s
  | none => .no
def iOf (m : Ev) : En → Sto → Res Src := fun ρ st => (mV m ρ st).bind fun x s => okO (srcOf s x) s
theorem wk_list {K : PySem.W.Frag} {q : Addr} {ds : List PyData} {g : Option (Nat × List PyData)} (hx : ∀ μ1 F1 H1 st1, Sx μ F μ1 F1 → SR C.K μ1 F1 H1 st1 → Grd g ds st1 → ∃ ys, H1 q = some (.lst ys) ∧ DqAll C.K F1 ys ds) : Wk C.K (Itl K q) ds g μ F := by
  refine ⟨fun i μ1 F1 H1 st1 d x1 r1 k1 e => ?_, fun μ1 F1 H1 st1 x1 r1 k1 => ?_⟩
  · obtain ⟨ys, g1, g2⟩ := hx μ1 F1 H1 st1 x1 r1 k1
    obtain ⟨v, g3, g4⟩ := g2.get e
    refine ⟨⟨ys, v, SqL.of g1, g3⟩, fun x H2 ⟨e1, e2⟩ => ?_⟩
    subst e1
    have := e2 ys (SqL.of g1)
    rw [g3] at this
    cases this
    exact ⟨F1, Ext.refl, r1, g4⟩
  · obtain ⟨ys, g1, g2⟩ := hx μ1 F1 H1 st1 x1 r1 k1
    exact ⟨ys, SqL.of g1, Nat.le_of_eq g2.length⟩
theorem wk_tup {K : PySem.W.Frag} {xs : List V} {q : Addr} {ds : List PyData} {g : Option (Nat × List PyData)} (h1 : Rd F q (.tup xs)) (h2 : DqAll C.K F xs ds) : Wk C.K (Itt K q) ds g μ F := by
  refine ⟨fun i μ1 F1 H1 st1 d x1 r1 k1 e => ?_, fun μ1 F1 H1 st1 x1 r1 k1 => ?_⟩
  · have g1 : SqT K H1 q xs := SqT.rd r1.sub (same_rd x1.same h1)
    obtain ⟨v, g3, g4⟩ := (h2.same x1.same).get e
    refine ⟨⟨xs, v, g1, g3⟩, fun x H2 ⟨e1, e2⟩ => ?_⟩
    subst e1
    have := e2 xs (g1)
    rw [g3] at this
    cases this
    exact ⟨F1, Ext.refl, r1, g4⟩
  · exact ⟨xs, SqT.rd r1.sub (same_rd x1.same h1), Nat.le_of_eq h2.length⟩
theorem wk_str {z : Str} {g : Option (Nat × List PyData)} : Wk C.K (Its z) (signs z) g μ F := by
  refine ⟨fun i μ1 F1 H1 st1 d x1 r1 k1 e => ?_, fun μ1 F1 H1 st1 x1 r1 k1 => ?_⟩
  · unfold signs at e
    rw [List.getElem?_map] at e
    obtain ⟨cc, h1, rfl⟩ := Option.map_eq_some_iff.mp e
    rw [Array.getElem?_toList] at h1
    refine ⟨(Array.getElem?_eq_some_iff.mp h1).1, fun x H2 ⟨e1, c', e2, e3⟩ => ?_⟩
    subst e1 e3
    rw [h1] at e2; cases e2
    exact ⟨F1, Ext.refl, r1, .str _⟩
  · show z.cps.size ≤ (signs z).length
    unfold signs
    rw [List.length_map, Array.length_toList]
    exact Nat.le_refl _
theorem i_seq (h : PE X e (tM C m)) : PI X tg e (tI C (iOf m)) := (pi_seq (pv_frz h)).imp fun σ H R ⟨ρ, st, μ, F, h1, h2, h3⟩ => ⟨ρ, st, μ, F, h1, h2, Post.bindV gW_lat h3 fun x s v μ1 F1 H1 x1 r1 k1 h4 => by
  cases x with
  | s _ => exact False.elim h4
  | o y =>
    cases y with
    | tp xs =>
      obtain ⟨a, ys, o, rfl, q1, _, q2⟩ := k1
      exact .inr (.inl ⟨_, _, rfl, SqT.rd r1.sub (.inr ⟨o, q1⟩), h4 _ μ1 F1 H1 Ext.refl r1 (wk_tup (.inr ⟨o, q1⟩) q2)⟩)
    | _ => exact False.elim h4
  | c k =>
    cases q : s[k]? with
    | none => simp only [srcOf, q, okO] at h4; exact False.elim h4
    | some cl =>
      cases cl with
      | m _ => simp only [srcOf, q, okO] at h4; exact False.elim h4
      | l xs =>
        simp only [srcOf, q, okO] at h4
        obtain ⟨pp, hp, rfl⟩ := k1
        obtain ⟨p', o', g1, g2, ys, rfl, g3⟩ := r1.cell k _ q
        rw [hp] at g1; cases g1
        refine .inl ⟨pp, ys, rfl, SqL.of g2, h4 _ μ1 F1 H1 Ext.refl r1 (wk_list fun μ2 F2 H2 st2 x2 r2 k2 => ?_)⟩
        obtain ⟨p2, o2, e1, e2, zs, rfl, e3⟩ := r2.cell k _ k2
        rw [x2.get hp] at e1; cases e1
        exact ⟨zs, e2, e3⟩
  | d x =>
    cases x with
    | list xs =>
      cases (show Dq C.K F1 v (.list xs) from k1) with
      | lst q1 q2 => exact .inl ⟨_, _, rfl, SqL.of (r1.sub _ _ q1), h4 _ μ1 F1 H1 Ext.refl r1 (wk_list fun μ2 F2 H2 st2 x2 r2 k2 => ⟨_, r2.sub _ _ (x2.same _ _ q1), q2.same x2.same⟩)⟩
    | tuple xs =>
      cases (show Dq C.K F1 v (.tuple xs) from k1) with
      | tup q1 q2 => exact .inr (.inl ⟨_, _, rfl, SqT.rd r1.sub q1, h4 _ μ1 F1 H1 Ext.refl r1 (wk_tup q1 q2)⟩)
    | str z =>
      cases (show Dq C.K F1 v (.str z) from k1)
      exact .inr (.inr ⟨z, rfl, h4 _ μ1 F1 H1 Ext.refl r1 wk_str⟩)
    | _ => exact False.elim h4⟩
/-- range -/
def rngD (lo hi : Int) : List PyData := (List.range (hi - lo).toNat).map fun i => .int (lo + (i : Nat))
theorem wk_rng {lo : Int} {n : Nat} {g : Option (Nat × List PyData)} : Wk C.K (Itr lo n) ((List.range n).map fun i => .int (lo + (i : Nat))) g μ F := by
  refine ⟨fun i μ1 F1 H1 st1 d x1 r1 k1 e => ?_, fun μ1 F1 H1 st1 x1 r1 k1 => ?_⟩
  · rw [List.getElem?_map] at e
    obtain ⟨cc, h1, rfl⟩ := Option.map_eq_some_iff.mp e
    obtain ⟨hl, he⟩ := List.getElem?_eq_some_iff.mp h1
    rw [List.getElem_range] at he
    subst he
    rw [List.length_range] at hl
    refine ⟨hl, fun x H2 ⟨e1, e2⟩ => ?_⟩
    subst e1 e2
    exact ⟨F1, Ext.refl, r1, .int _⟩
  · show n ≤ _
    rw [List.length_map, List.length_range]
    exact Nat.le_refl _
def rOk (i j : Int) : Bool := decide (-(2 ^ 62) ≤ i) && decide (i < 2 ^ 62) && decide (-(2 ^ 62) ≤ j) && decide (j < 2 ^ 62)
def oneI (xs : List Vl) : Option Int := match xs with
  | [.d (.int j)] => some j
  | _ => none
def twoI (xs : List Vl) : Option (Int × Int) := match xs with
  | [.d (.int i), .d (.int j)] => some (i, j)
  | _ => none
theorem oneI_ok {K : Kw} {xs : List Vl} {vs : List V} {j : Int} (k : VokAll K F μ xs vs) (e : oneI xs = some j) : vs = [.int j] := by
  unfold oneI at e
  split at e
  · cases e
    obtain ⟨v, rfl, hv⟩ := k.one
    cases (show Dq K F v (.int j) from hv)
    rfl
  · cases e
theorem twoI_ok {K : Kw} {xs : List Vl} {vs : List V} {ij : Int × Int} (k : VokAll K F μ xs vs) (e : twoI xs = some ij) : vs = [.int ij.1, .int ij.2] := by
  unfold twoI at e
  split at e
  · cases e
    obtain ⟨v, u, rfl, hv, hu⟩ := k.two
    cases (show Dq K F v (.int _) from hv)
    cases (show Dq K F u (.int _) from hu)
    rfl
  · cases e
def iRg1 (mas : En → Sto → Res (List Vl)) : En → Sto → Res Src := fun ρ st => (mas ρ st).bind fun xs s => match oneI xs with
  | some j => if rOk 0 j = true then .ok (rngD 0 j, none) s else .no
  | none => .no
def iRg2 (mas : En → Sto → Res (List Vl)) : En → Sto → Res Src := fun ρ st => (mas ρ st).bind fun xs s => match twoI xs with
  | some ij => if rOk ij.1 ij.2 = true then .ok (rngD ij.1 ij.2, none) s else .no
  | none => .no
variable {mas : En → Sto → Res (List Vl)}
theorem rOk_of {i j : Int} (h : rOk i j = true) : -(2 ^ 62) ≤ i ∧ i < 2 ^ 62 ∧ -(2 ^ 62) ≤ j ∧ j < 2 ^ 62 := by
  unfold rOk at h
  simp only [Bool.and_eq_true, decide_eq_true_eq] at h
  exact ⟨h.1.1.1, h.1.1.2, h.1.2, h.2⟩
theorem i_rng1 (hg : Gl X "range") (hm : X.mg "range" = none) (ha : PA X [a] (tAs C mas)) (hs : starEach [a] X.env = [(false, eval a X.env)] := by rfl) : PI X tg (.Call (.Name "range" p) [a] [] pos) (tI C (iRg1 mas)) :=
  (pi_range1 hg hm ha hs).imp fun σ H R ⟨ρ, st, μ, F, h1, h2, h3⟩ => ⟨ρ, st, μ, F, h1, h2, Post.bindA gW_lat h3 fun xs s vs μ1 F1 H1 x1 r1 k1 h4 => by
    cases q : oneI xs with
    | none => simp only [q] at h4; exact False.elim h4
    | some j =>
      simp only [q] at h4
      by_cases hr : rOk 0 j = true
      · rw [if_pos hr] at h4
        obtain ⟨_, _, q1, q2⟩ := rOk_of hr
        refine ⟨j, oneI_ok k1 q, q1, q2, h4 _ μ1 F1 H1 Ext.refl r1 ?_⟩
        show Wk C.K (Itr 0 j.toNat) (rngD 0 j) none μ1 F1
        unfold rngD
        rw [Int.sub_zero]
        exact wk_rng
      · rw [if_neg hr] at h4
        exact False.elim h4⟩
theorem i_rng2 (hg : Gl X "range") (hm : X.mg "range" = none) (ha : PA X [a, b] (tAs C mas)) (hs : starEach [a, b] X.env = [(false, eval a X.env), (false, eval b X.env)] := by rfl) (hs2 : starEach [b] X.env = [(false, eval b X.env)] := by rfl) : PI X tg (.Call (.Name "range" p) [a, b] [] pos) (tI C (iRg2 mas)) :=
  (pi_range2 hg hm ha hs hs2).imp fun σ H R ⟨ρ, st, μ, F, h1, h2, h3⟩ => ⟨ρ, st, μ, F, h1, h2, Post.bindA gW_lat h3 fun xs s vs μ1 F1 H1 x1 r1 k1 h4 => by
    cases q : twoI xs with
    | none => simp only [q] at h4; exact False.elim h4
    | some ij =>
      simp only [q] at h4
      by_cases hr : rOk ij.1 ij.2 = true
      · rw [if_pos hr] at h4
        exact ⟨ij.1, ij.2, twoI_ok k1 q, rOk_of hr, h4 _ μ1 F1 H1 Ext.refl r1 wk_rng⟩
      · rw [if_neg hr] at h4
        exact False.elim h4⟩
/-- list(range(..)) -/
def mLr (mi : En → Sto → Res (Int × Int)) : Ev := fun ρ st => (mi ρ st).bind fun ij s => if rOk ij.1 ij.2 = true ∧ (ij.2 - ij.1).toNat ≤ 2 ^ 24 then .ok (.n (.l (rngD ij.1 ij.2))) s else .no
end
end Cp
/-! Cp7: for, while, comprehensions. -/
namespace Cp
open PySem L2
section
variable {X : Cx} {C : Cn} {Q : VK} {μ μ1 : Mu} {F H F1 H1 : Hp} {st : Sto} {e a b c o tg iter : Expr} {m mo ma mb mc : Ev} {pos p apos cpos : Pos} {es : List Expr} {D : Ends} {s t : Stmt} {ss body : List Stmt} {sa sb : Sv}
/-! ### for -/
open Classical in
noncomputable def forGo (g : Gm) (b : Sv) (gd : Option (Nat × List PyData)) (all : List PyData) : List PyData → En → Sto → RS
  | [], ρ, st => if Grd gd all st then .nx ρ st else .no
  | d :: r, ρ, st => if Grd gd all st then (g (.d d) ρ st).toS fun ρ1 s1 => match b ρ1 s1 with
      | .nx ρ2 s2 => forGo g b gd all r ρ2 s2
      | .ct ρ2 s2 => forGo g b gd all r ρ2 s2
      | .bk ρ2 s2 => .nx ρ2 s2
      | .rt v s2 => .rt v s2
      | .er x s2 => .er x s2
      | .no => .no
    else .no
noncomputable def sFor (mi : En → Sto → Res Src) (g : Gm) (b : Sv) : Sv := fun ρ st => (mi ρ st).toS fun dg s => forGo g b dg.2 dg.1 dg.1 ρ s
theorem PostS.bindI {m : Res Src} {k : Src → Sto → RS} {R : It → Hp → Prop} (h : PostS C D μ F H (m.toS k))
    (hk : ∀ x s J μ1 F1 H1, Ext μ F H μ1 F1 H1 → SR C.K μ1 F1 H1 s → Wk C.K J x.1 x.2 μ1 F1 → PostS C D μ1 F1 H1 (k x s) → R J H1) : Post C (gW C R) μ F H m := by
  cases m with
  | ok x s => exact fun J μ1 F1 H1 e s1 w => hk x s J μ1 F1 H1 e s1 w (PostS.later e h)
  | er e s => exact h
  | no => exact h
theorem PostS.bindG {m : Res En} {k : En → Sto → RS} {ws : List Nat} {σ : St} {P : St → Hp → Prop} (h : PostS C D μ F H (m.toS k))
    (hk : ∀ ρ s σ' μ1 F1 H1, Ext μ F H μ1 F1 H1 → SR C.K μ1 F1 H1 s → Eok C.K F1 μ1 ρ σ' → Agr ws σ σ' → PostS C D μ1 F1 H1 (k ρ s) → P σ' H1) : Post C (gG C ws σ P) μ F H m := by
  cases m with
  | ok x s => exact fun σ' μ1 F1 H1 e s1 k1 a => hk x s σ' μ1 F1 H1 e s1 k1 a (PostS.later e h)
  | er e s => exact h
  | no => exact h
theorem drop_cons {α : Type} : ∀ {l : List α} {i : Nat} (h : i < l.length), ∃ d, l[i]? = some d ∧ l.drop i = d :: l.drop (i + 1)
  | x :: l, 0, _ => ⟨x, rfl, rfl⟩
  | x :: l, i + 1, h => by
    obtain ⟨d, h1, h2⟩ := drop_cons (l := l) (i := i) (by simpa using h)
    exact ⟨d, by simpa using h1, by simpa using h2⟩
theorem x_for {mi : En → Sto → Res Src} {ws : List Nat} {g : Gm} (hp : PassesOwn (model X.prog X.w) X.A X.env X.xe) (hc : X.calm = true) (hi : PI X tg iter (tI C mi)) (hg : PG X tg (tG C ws g)) (hb : PSs X body (tS C sb))
    (hs : ∀ x, foldedSetIterable iter X.env x = pure x := by intro _; rfl) (fl : C.Flat := by exact fun _ _ _ _ _ h => h) : PS X (.For tg iter body [] pos) (tS C (sFor mi g sb)) := (ps_for hp hc hi hg hb hs).imp fun D σ0 H ⟨ρ, st, μ, F, h1, h2, h3⟩ => by
  refine ⟨ρ, st, μ, F, h1, h2, PostS.bindI h3 fun dg s J μ' F' Hs x0 r0 wk h4 => ?_⟩
  obtain ⟨ds, gd⟩ := dg
  refine ⟨fun i m σ H => m = ds.length - i ∧ i ≤ ds.length ∧ ∃ ρ1 st1 μ1 F1, Ext μ' F' Hs μ1 F1 H ∧ SR C.K μ1 F1 H st1 ∧ Eok C.K F1 μ1 ρ1 σ ∧ PostS (C.at σ0) D μ1 F1 H (forGo g sb gd ds (ds.drop i) ρ1 st1),
    ⟨ds.length, rfl, Nat.zero_le _, ρ, s, μ', F', Ext.refl, r0, h1.ext x0, h4⟩, ?_⟩
  rintro i m σ H ⟨rfl, hi, ρ1, st1, μ1, F1, x1, r1, k1, h5⟩
  by_cases hl : i < ds.length
  · obtain ⟨d, e1, e2⟩ := drop_cons hl
    rw [e2] at h5
    unfold forGo at h5
    by_cases hgd : Grd gd ds st1
    · rw [if_pos hgd] at h5
      obtain ⟨go, step⟩ := wk.go i μ1 F1 H st1 d x1.sx r1 hgd e1
      refine .inr ⟨go, fun σ' H' => ∃ ρ2 st2 μ2 F2, Ext μ' F' Hs μ2 F2 H' ∧ SR C.K μ2 F2 H' st2 ∧ Eok C.K F2 μ2 ρ2 σ' ∧ PostS (C.at σ0) D μ2 F2 H' (forGo g sb gd ds (ds.drop (i + 1)) ρ2 st2),
        fun σ' H' hn => ⟨ds.length - (i + 1), by omega, rfl, hl, hn⟩, fun x H2 y => ?_⟩
      obtain ⟨F2, x2, r2, kd⟩ := step x H2 y
      refine ⟨ρ1, st1, μ1, F2, .d d, k1.ext x2, r2, kd, PostS.bindG (C := C.at σ) (PostS.flat fl (PostS.later x2 h5)) fun ρ2 s2 σ2 μ3 F3 H3 x3 r3 k3 ag h6 => ⟨ρ2, s2, μ3, F3, k3, r3, ?_⟩⟩
      have h6 := PostS.flat (σ' := σ2) fl h6
      show PostS (C.at σ2) _ μ3 F3 H3 (sb ρ2 s2)
      cases q : sb ρ2 s2 with
      | nx ρ4 s4 => simp only [q] at h6; exact fun σ4 μ4 F4 H4 x4 r4 k4 => ⟨ρ4, s4, μ4, F4, ((x1.trans x2).trans x3).trans x4, r4, k4, PostS.flat fl (PostS.later x4 h6)⟩
      | ct ρ4 s4 => simp only [q] at h6; exact fun σ4 μ4 F4 H4 x4 r4 k4 => ⟨ρ4, s4, μ4, F4, ((x1.trans x2).trans x3).trans x4, r4, k4, PostS.flat fl (PostS.later x4 h6)⟩
      | bk ρ4 s4 => simp only [q] at h6; exact h6
      | rt v s4 => simp only [q] at h6; exact h6
      | er v s4 => simp only [q] at h6; exact h6
      | no => simp only [q] at h6; exact h6
    · rw [if_neg hgd] at h5; exact False.elim h5
  · have e : i = ds.length := by omega
    subst e
    rw [List.drop_length] at h5
    unfold forGo at h5
    by_cases hgd : Grd gd ds st1
    · rw [if_pos hgd] at h5
      exact .inl ⟨wk.stop μ1 F1 H st1 x1.sx r1 hgd, h5 σ μ1 F1 H Ext.refl r1 k1⟩
    · rw [if_neg hgd] at h5; exact False.elim h5
/-! ### while: at most n turns -/
/-! ### comprehensions -/
def wipeE (ρ : En) : List Nat → En
  | [] => ρ
  | v :: vs => (wipeE ρ vs).set v none
theorem wipeE_len (ρ : En) : ∀ vs : List Nat, (wipeE ρ vs).length = ρ.length
  | [] => rfl
  | v :: vs => by unfold wipeE; rw [List.length_set, wipeE_len ρ vs]
theorem eok_wipe {K : Kw} {ρ : En} {σ : St} (h : Eok K F μ ρ σ) : ∀ vs : List Nat, Eok K F μ (wipeE ρ vs) (wipe σ vs)
  | [] => h
  | v :: vs => by
    have ih := eok_wipe h vs
    refine ⟨by rw [wipeE_len, wipe_length]; exact h.1, fun j y e => ?_⟩
    unfold wipeE at e
    unfold wipe
    by_cases hj : v = j
    · subst hj
      by_cases hv : v < (wipeE ρ vs).length
      · rw [List.getElem?_set_self hv] at e; cases e
      · rw [List.getElem?_eq_none (by simpa using hv)] at e; cases e
    · rw [List.getElem?_set_ne hj] at e
      obtain ⟨w, h1, h2⟩ := ih.2 j y e
      exact ⟨w, by rw [List.getElem?_set_ne hj]; exact h1, h2⟩
theorem wipe_agr {σ σ' : St} {ws vs : List Nat} (a : Agr ws (wipe σ vs) σ') (hv : ∀ i, i ∈ ws → i ∈ vs) : wipe σ' vs = wipe σ vs := by
  have key : ∀ {τ : St} {us : List Nat} {j : Nat}, (wipe τ us)[j]? = if j ∈ us then (if j < τ.length then some none else none) else τ[j]? := by
    intro τ us
    induction us with
    | nil => intro j; simp [wipe]
    | cons u us ih =>
      intro j
      unfold wipe
      by_cases hj : u = j
      · subst hj
        rw [if_pos (by simp)]
        by_cases hl : u < τ.length
        · rw [List.getElem?_set_self (by rw [wipe_length]; exact hl), if_pos hl]
        · rw [List.getElem?_eq_none (by rw [List.length_set, wipe_length]; omega), if_neg hl]
      · rw [List.getElem?_set_ne hj, ih]
        by_cases hm : j ∈ us
        · rw [if_pos hm, if_pos (List.mem_cons_of_mem u hm)]
        · rw [if_neg hm, if_neg (fun z => (List.mem_cons.mp z).elim (fun e => hj e.symm) hm)]
  have hl : σ'.length = σ.length := by rw [a.1, wipe_length]
  apply List.ext_getElem?
  intro j
  rw [key, key, hl]
  by_cases hm : j ∈ vs
  · rw [if_pos hm, if_pos hm]
  · rw [if_neg hm, if_neg hm, a.2 j (fun z => hm (hv j z)), key, if_neg hm]
/-- within a comprehension no error leaves -/
def Cn.quiet (C : Cn) : Cn := { C with W := fun _ _ _ _ => False }
open Classical in
noncomputable def lcGo (g : Gm) (tt : En → Sto → Res Bool) (te : Ev) (gd : Option (Nat × List PyData)) (all : List PyData) (ρ : En) : List PyData → Sto → List PyData → Res (List PyData)
  | [], st, acc => if Grd gd all st then .ok acc st else .no
  | d :: r, st, acc => if Grd gd all st then (match g (.d d) ρ st with
      | .ok ρ1 s1 => match tt ρ1 s1 with
        | .ok true s2 => match mV te ρ1 s2 with
          | .ok (.d y) s3 => if acc.length < sizeLine then lcGo g tt te gd all ρ r s3 (acc ++ [y]) else .no
          | _ => .no
        | .ok false s2 => lcGo g tt te gd all ρ r s2 acc
        | _ => .no
      | _ => .no) else .no
noncomputable def mLc (mi : En → Sto → Res Src) (g : Gm) (tt : En → Sto → Res Bool) (te : Ev) (vs : List Nat) : Ev := fun ρ st => (mi ρ st).bind fun dg s => (lcGo g tt te dg.2 dg.1 (wipeE ρ vs) dg.1 s []).bind fun ys s' => .ok (.n (.l ys)) s'
theorem Post.bindI {β : Type} {G : β → Sto → Mu → Hp → Hp → Prop} (gl : Lat G) {m : Res Src} {k : Src → Sto → Res β} {R : It → Hp → Prop} (h : Post C G μ F H (m.bind k))
    (hk : ∀ x s J μ1 F1 H1, Ext μ F H μ1 F1 H1 → SR C.K μ1 F1 H1 s → Wk C.K J x.1 x.2 μ1 F1 → Post C G μ1 F1 H1 (k x s) → R J H1) : Post C (gW C R) μ F H m := by
  cases m with
  | ok x s => exact fun J μ1 F1 H1 e s1 w => hk x s J μ1 F1 H1 e s1 w (Post.later gl e h)
  | er e s => exact h
  | no => exact h
/-- the new list at L within: an object of nobody's is written -/
theorem SR.out {K : Kw} (s : SR K μ F H st) {L : Addr} {u : HO} (hF : F L = none) (hm : L ∉ μ) : SR K μ F (upd H L u) st := by
  refine ⟨s.nd, s.len, s.sep, fun b o h => ?_, fun i c i0 h => ?_, s.obs_kept fun j a hj o ho => ?_⟩
  · rw [upd_ne (fun z => by subst z; rw [hF] at h; cases h)]; exact s.sub b o h
  · obtain ⟨p, o, h1, h2, h3⟩ := s.cell0 i c i0 h
    refine ⟨p, o, h1, ?_, h3⟩
    rw [upd_ne (fun z => ?_)]; exact h2
    subst z
    exact hm (Mu.mem_l h1 i0)
  · rw [upd_ne (fun z => by subst z; exact hm (Mu.mem_η hj))]; exact ho
theorem Ext.out (x : Ext μ F H μ1 F1 H1) {L : Addr} {u : HO} (h0 : H L = none) (h1 : H1 L ≠ none ∨ True) : Ext μ F H μ1 F1 (upd H1 L u) := by
  refine ⟨x.same, x.pre, x.preη, fun b o h n => ?_, fun b h => ?_, x.nF, x.nC⟩
  · rw [upd_ne (fun z => by subst z; rw [h0] at h; cases h)]; exact x.fr b o h n
  · by_cases e : b = L
    · subst e; exact h0
    · rw [upd_ne e] at h; exact x.dom b h
/-- what is in nobody's hands stays so -/
theorem Ext.keepOut {L : Addr} {u : HO} (x : Ext μ F H μ1 F1 H1) (h : H L = some u) (hF : F L = none) (hm : L ∉ μ) : H1 L = some u ∧ F1 L = none ∧ L ∉ μ1 := by
  refine ⟨x.fr L u h hm, ?_, fun z => ?_⟩
  · cases q : F1 L with
    | none => rfl
    | some o =>
      rcases x.nF L o q with z | z | z
      · rw [hF] at z; cases z
      · rw [h] at z; cases z
      · exact absurd z hm
  · rcases x.nC L z with z | z
    · exact hm z
    · rw [h] at z; cases z
abbrev Blk (X : Cx) (scope : Scope) (J : Cx → Prop) : Prop := ∀ (s : Shared) (H : Hp) (A : Addr) (cl : List (Str × Addr)) (fp : List Addr), J (X.blk s H scope (compEnvC scope cl A X.env) fp)
/-- the state within a comprehension's loop: the list L so far -/
structure LcI (C : Cn) (μ' : Mu) (F' H' : Hp) (L : Addr) (ρ : En) (σ : St) (acc : List PyData) (H : Hp) (st : Sto) (μ1 : Mu) (F1 : Hp) : Prop where
  x : Ext μ' F' H' μ1 F1 H
  r : SR C.K μ1 F1 H st
  k : Eok C.K F1 μ1 ρ σ
  l : ∃ xs, H L = some (.lst xs) ∧ DqAll C.K F1 xs acc
  f : F1 L = none
  m : L ∉ μ1
theorem LcI.later {C : Cn} {μ' : Mu} {F' H' : Hp} {L : Addr} {ρ : En} {σ : St} {acc : List PyData} {μ2 : Mu} {F2 H2 : Hp} {st2 : Sto} (i : LcI C μ' F' H' L ρ σ acc H st μ1 F1) (x : Ext μ1 F1 H μ2 F2 H2) (r : SR C.K μ2 F2 H2 st2) : LcI C μ' F' H' L ρ σ acc H2 st2 μ2 F2 := by
  obtain ⟨xs, h1, h2⟩ := i.l
  obtain ⟨k1, k2, k3⟩ := x.keepOut h1 i.f i.m
  exact ⟨i.x.trans x, r, i.k.ext x, ⟨xs, k1, h2.same x.same⟩, k2, k3⟩
theorem LcI.put {C : Cn} {μ' : Mu} {F' H' : Hp} {L : Addr} {ρ : En} {σ : St} {acc : List PyData} {y : PyData} {v : V} (h0 : H' L = none) (i : LcI C μ' F' H' L ρ σ acc H st μ1 F1) (hv : Dq C.K F1 v y) :
    ∃ xs, H L = some (.lst xs) ∧ xs.length = acc.length ∧ LcI C μ' F' H' L ρ σ (acc ++ [y]) (upd H L (.lst (xs ++ [v]))) st μ1 F1 := by
  obtain ⟨xs, h1, h2⟩ := i.l
  exact ⟨xs, h1, h2.length, i.x.out h0 (.inr trivial), i.r.out i.f i.m, i.k, ⟨_, upd_same, h2.app (.cons hv .nil)⟩, i.f, i.m⟩
theorem s_lcT {scope : Scope} {own : List (Str × Nat)} {mi : En → Sto → Res Src} {ws : List Nat} {g : Gm} {tt : En → Sto → Res Bool} {te : Ev} (hws : ∀ i, i ∈ ws → i ∈ own.map (·.2)) (σ : St) (H : Hp) (Q : VK) (h : tM C (mLc mi g tt te (own.map (·.2))) σ H Q) :
    tLc (tI C mi) (tG C.quiet ws g) (tT C.quiet tt) (tV C.quiet (mV te)) (own.map (·.2)) σ H Q := by
  obtain ⟨ρ, st, μ, F, h1, h2, h3⟩ := h
  refine ⟨ρ, st, μ, F, h1, h2, Post.bindI gE_lat h3 fun dg s J μ' F' H' x0 r0 wk h4 L hL => ?_⟩
  obtain ⟨ds, gd⟩ := dg
  obtain ⟨rn, xn⟩ := r0.newly (o := .lst []) hL
  have dd := r0.dead hL
  refine ⟨fun i m H => m = ds.length - i ∧ i ≤ ds.length ∧ ∃ acc st1 μ1 F1, LcI C μ' F' H' L (wipeE ρ (own.map (·.2))) (wipe σ (own.map (·.2))) acc H st1 μ1 F1 ∧
      PostE (C.at σ) Q μ' F' H' ((lcGo g tt te gd ds (wipeE ρ (own.map (·.2))) (ds.drop i) st1 acc).bind fun ys s' => .ok (.n (.l ys)) s'),
    ⟨ds.length, rfl, Nat.zero_le _, [], s, μ', F', ⟨xn, rn, (eok_wipe (h1.ext x0) _), ⟨[], upd_same, .nil⟩, dd.1, dd.2⟩, h4⟩, ?_⟩
  rintro i m H ⟨rfl, hi, acc, st1, μ1, F1, I, h5⟩
  by_cases hl : i < ds.length
  · obtain ⟨d, e1, e2⟩ := drop_cons hl
    rw [e2] at h5
    unfold lcGo at h5
    by_cases hgd : Grd gd ds st1
    · rw [if_pos hgd] at h5
      obtain ⟨go, step⟩ := wk.go i μ1 F1 H st1 d I.x.sx I.r hgd e1
      refine .inr ⟨go, fun H2 => ∃ acc st1 μ1 F1, LcI C μ' F' H' L (wipeE ρ (own.map (·.2))) (wipe σ (own.map (·.2))) acc H2 st1 μ1 F1 ∧
        PostE (C.at σ) Q μ' F' H' ((lcGo g tt te gd ds (wipeE ρ (own.map (·.2))) (ds.drop (i + 1)) st1 acc).bind fun ys s' => .ok (.n (.l ys)) s'), fun H2 hn => ⟨ds.length - (i + 1), by omega, rfl, hl, hn⟩, fun x H2 y => ?_⟩
      obtain ⟨F2, x2, r2, kd⟩ := step x H2 y
      have I2 := I.later x2 r2
      refine ⟨_, st1, μ1, F2, .d d, I2.k, r2, kd, ?_⟩
      show Post (C.quiet.at _) _ μ1 F2 H2 (g (.d d) (wipeE ρ (own.map (·.2))) st1)
      cases q : g (.d d) (wipeE ρ (own.map (·.2))) st1 with
      | no => simp only [q] at h5; exact False.elim h5
      | er _ _ => simp only [q] at h5; exact False.elim h5
      | ok ρ2 s2 =>
        simp only [q] at h5
        intro σ3 μ3 F3 H3 x3 r3 k3 ag
        have I3 := I2.later x3 r3
        refine ⟨wipe_agr ag hws, ρ2, s2, μ3, F3, k3, r3, ?_⟩
        show Post (C.quiet.at _) _ μ3 F3 H3 (tt ρ2 s2)
        cases q2 : tt ρ2 s2 with
        | no => simp only [q2] at h5; exact False.elim h5
        | er _ _ => simp only [q2] at h5; exact False.elim h5
        | ok k s3 =>
          intro μ4 F4 H4 x4 r4
          have I4 := I3.later x4 r4
          cases k with
          | false =>
            simp only [q2] at h5
            simp only [Bool.false_eq_true, if_false]
            exact ⟨acc, s3, μ4, F4, I4, h5⟩
          | true =>
            simp only [q2] at h5
            simp only [if_true]
            refine ⟨ρ2, s3, μ4, F4, k3.ext x4, r4, ?_⟩
            show Post (C.quiet.at _) _ μ4 F4 H4 (mV te ρ2 s3)
            cases q3 : mV te ρ2 s3 with
            | no => simp only [q3] at h5; exact False.elim h5
            | er _ _ => simp only [q3] at h5; exact False.elim h5
            | ok z s4 =>
              intro v μ5 F5 H5 x5 r5 k5
              have I5 := I4.later x5 r5
              cases z with
              | c _ => simp only [q3] at h5; exact False.elim h5
              | s _ => simp only [q3] at h5; exact False.elim h5
              | o _ => simp only [q3] at h5; exact False.elim h5
              | d y =>
                simp only [q3] at h5
                by_cases hz : acc.length < sizeLine
                · rw [if_pos hz] at h5
                  obtain ⟨xs, g1, g2, g3⟩ := I5.put hL k5
                  exact ⟨xs, g1, by rw [g2]; exact hz, acc ++ [y], s4, μ5, F5, g3, h5⟩
                · rw [if_neg hz] at h5; exact False.elim h5
    · rw [if_neg hgd] at h5; exact False.elim h5
  · have e : i = ds.length := by omega
    subst e
    rw [List.drop_length] at h5
    unfold lcGo at h5
    by_cases hgd : Grd gd ds st1
    · rw [if_pos hgd] at h5
      obtain ⟨xs, g1, g2⟩ := I.l
      exact .inl ⟨wk.stop μ1 F1 H st1 I.x.sx I.r hgd, h5 _ μ1 F1 H ⟨I.x, I.r, ⟨L, _, rfl, g1, ⟨xs, rfl, g2⟩, I.f, I.m⟩, fun c _ => ⟨L, rfl, hL⟩⟩⟩
    · rw [if_neg hgd] at h5; exact False.elim h5
theorem s_lc {scope : Scope} {own : List (Str × Nat)} {ifs : List Expr} {mi : En → Sto → Res Src} {ws : List Nat} {g : Gm} {tt : En → Sto → Res Bool} {te : Ev} (hc : X.calm = true) (hN : X.N.Nodup) (hi : PI X tg iter (tI C mi)) (ok : BlkOk X.N X.env.scope scope own)
    (hg : Blk X scope fun Y => PG Y tg (tG C.quiet ws g)) (ht : Blk X scope fun Y => PTs Y ifs (tT C.quiet tt)) (he : Blk X scope fun Y => PE Y e (tM C.quiet te)) (hws : ∀ i, i ∈ ws → i ∈ own.map (·.2)) (hs : ∀ x, foldedSetIterable iter X.env x = pure x := by intro _; rfl) :
    PE X (.ListComp e [⟨tg, iter, ifs, 0⟩] scope pos) (tM C (mLc mi g tt te (own.map (·.2)))) :=
  (pe_lc hc hN hi ok (fun s H A cl fp => hg s H A cl fp) (fun s H A cl fp => ht s H A cl fp) (fun s H A cl fp => pv_frz (he s H A cl fp)) hs).imp fun σ H Q h => s_lcT (scope := scope) hws σ H Q h
def ttY : En → Sto → Res Bool := fun _ st => .ok true st
theorem pts_yes : PTs X [] (tT C ttY) := ⟨fun pins s σ H Q I ⟨ρ, st, μ, F, h1, h2, h3⟩ => pts_nil.run pins s σ H Q I (h3 μ F H Ext.refl h2)⟩
theorem pts_if {bc : En → Sto → Res Bool} (h : PT X c (tT C bc)) : PTs X [c] (tT C bc) := pts_one h
/-- name = [..] -/
theorem x_setLc {i : Nat} {y : Str} {py : Pos} {spos : Pos} {scope : Scope} {own : List (Str × Nat)} {ifs : List Expr} {mi : En → Sto → Res Src} {ws : List Nat} {g : Gm} {tt : En → Sto → Res Bool} {te : Ev} (hc : X.calm = true) (hN : X.N.Nodup) (hy : X.N[i]? = some y) (hyl : X.env.scope.names.lookup y = some .local)
    (hsw : swapsWith (.ListComp e [⟨tg, iter, ifs, 0⟩] scope pos) (some (.Name y py)) spos.line X.env = pure true) (hi : PI X tg iter (tI C mi)) (ok : BlkOk X.N X.env.scope scope own)
    (hg : Blk X scope fun Y => PG Y tg (tG C.quiet ws g)) (ht : Blk X scope fun Y => PTs Y ifs (tT C.quiet tt)) (he : Blk X scope fun Y => PE Y e (tM C.quiet te)) (hws : ∀ i, i ∈ ws → i ∈ own.map (·.2)) (hs : ∀ x, foldedSetIterable iter X.env x = pure x := by intro _; rfl)
    (mv : (Ev → En → Sto → Res Vl)) (hmv : mv = mV ∨ mv = mVc) :
    PS X (.Assign [.Name y py] (.ListComp e [⟨tg, iter, ifs, 0⟩] scope pos) spos) (tS C (sAsg (gNm i) (mv (mLc mi g tt te (own.map (·.2)))))) := by
  have h := ps_setLc (spos := spos) (py := py) hc hN hy hyl hsw hi ok (fun s H A cl fp => hg s H A cl fp) (fun s H A cl fp => ht s H A cl fp) (fun s H A cl fp => pv_frz (he s H A cl fp)) hs
  refine x_asgLc h fun σ H Q hq => s_lcT (scope := scope) hws σ H Q ?_
  rcases hmv with rfl | rfl
  · obtain ⟨ρ, st, μ, F, h1, h2, h3⟩ := hq
    refine ⟨ρ, st, μ, F, h1, h2, ?_⟩
    show PostE (C.at σ) Q μ F H (mLc mi g tt te (own.map (·.2)) ρ st)
    cases q : mLc mi g tt te (own.map (·.2)) ρ st with
    | ok r s' =>
      simp only [mV, q] at h3
      intro v μ' F' H' o
      obtain ⟨F2, x2, s2, k⟩ := frz_out h2 o
      exact h3 v μ' F2 H' x2 s2 k
    | er e2 s' => simp only [mV, q] at h3; exact h3
    | no => simp only [mV, q] at h3; exact h3
  · obtain ⟨ρ, st, μ, F, h1, h2, h3⟩ := hq
    refine ⟨ρ, st, μ, F, h1, h2, ?_⟩
    show PostE (C.at σ) Q μ F H (mLc mi g tt te (own.map (·.2)) ρ st)
    cases q : mLc mi g tt te (own.map (·.2)) ρ st with
    | ok r s' =>
      simp only [mVc, q] at h3
      intro v μ' F' H' o
      cases r with
      | d x => exact h3 v μ' F' H' o.ext o.sr o.rok
      | c x => exact h3 v μ' F' H' o.ext o.sr o.rok
      | s x => exact h3 v μ' F' H' o.ext o.sr o.rok
      | o x => exact h3 v μ' F' H' o.ext o.sr o.rok
      | n c =>
        obtain ⟨ext, sr, ⟨a, o, rfl, g2, g3, g4, g5⟩, new⟩ := o
        obtain ⟨a', e1, h0⟩ := new c rfl
        cases e1
        obtain ⟨s2, x2⟩ := sr.celled ext h0 g2 g4 g5 g3
        exact h3 _ _ _ _ x2 s2 ⟨a, by rw [← sr.len]; simp, rfl⟩
    | er e2 s' => simp only [mVc, q] at h3; exact h3
    | no => simp only [mVc, q] at h3; exact h3
end
end Cp
/-! Cp8: comprehensions of two clauses. -/
namespace Cp
open PySem L2
section
variable {X : Cx} {C : Cn} {Q : VK} {μ μ1 : Mu} {F H F1 H1 : Hp} {st : Sto} {e tg iter tg1 iter1 : Expr} {pos : Pos} {D : Ends}
open Classical in
noncomputable def lc2Go (g : Gm) (tt : En → Sto → Res Bool) (mi1 : En → Sto → Res Src) (g1 : Gm) (tt1 : En → Sto → Res Bool) (te : Ev) (gd : Option (Nat × List PyData)) (all : List PyData) (vs1 : List Nat) (ρ : En) : List PyData → Sto → List PyData → Res (List PyData)
  | [], st, acc => if Grd gd all st then .ok acc st else .no
  | d :: r, st, acc => if Grd gd all st then (match g (.d d) ρ st with
      | .ok ρ1 s1 => match tt ρ1 s1 with
        | .ok true s2 => match mi1 ρ1 s2 with
          | .ok dg s3 => match lcGo g1 tt1 te dg.2 dg.1 (wipeE ρ1 vs1) dg.1 s3 acc with
            | .ok acc' s4 => lc2Go g tt mi1 g1 tt1 te gd all vs1 ρ r s4 acc'
            | _ => .no
          | _ => .no
        | .ok false s2 => lc2Go g tt mi1 g1 tt1 te gd all vs1 ρ r s2 acc
        | _ => .no
      | _ => .no) else .no
noncomputable def mLc2 (mi : En → Sto → Res Src) (g : Gm) (tt : En → Sto → Res Bool) (mi1 : En → Sto → Res Src) (g1 : Gm) (tt1 : En → Sto → Res Bool) (te : Ev) (vs vs1 : List Nat) : Ev := fun ρ st => (mi ρ st).bind fun dg s => (lc2Go g tt mi1 g1 tt1 te dg.2 dg.1 vs1 (wipeE ρ vs) dg.1 s []).bind fun ys s' => .ok (.n (.l ys)) s'
theorem Eok.sx {K : Kw} (a : Sx μ F μ1 F1) {ρ : En} {σ : St} (h : Eok K F μ ρ σ) : Eok K F1 μ1 ρ σ :=
  ⟨h.1, fun i x e => let ⟨v, h1, h2⟩ := h.2 i x e; ⟨v, h1, by
    cases x with
    | d x => exact Dq.same a.same h2
    | c i => obtain ⟨p, h3, h4⟩ := h2; exact ⟨p, a.get h3, h4⟩
    | s ns => obtain ⟨p, h3, h4⟩ := h2; exact ⟨p, h3, a.same.seq h4⟩
    | o x =>
      obtain ⟨r, e⟩ := a.preη
      show ObOk K F1 μ1.η x v
      rw [e]
      exact ObOk.same r a.same h2⟩⟩
end
end Cp
/-! Cp9: what a def means, and its call. -/
namespace Cp
open PySem L2
abbrev Fs := List Vl → Sto → Res Rv
/-- room for k calls, and nothing is being shown -/
structure Rm (k : Nat) (A : Around) : Prop where
  room : Room k A
  gd : A.guards = some []
theorem Rm.mono {j k : Nat} {A : Around} (r : Rm k A) (h : j ≤ k) : Rm j A := ⟨r.room.mono h, r.gd⟩
theorem Rm.hu {k : Nat} {A : Around} (r : Rm k A) : A.units + 64 < cLine := r.room.units
/-- a def's promise out of its meaning -/
def spF (K : Kw) (mg : Str → Option Value) (sem : Fs) : Sp := fun vs H Q E => ∃ args st μ F, VokAll K F μ args vs ∧ SR K μ F H st ∧ PostE (Cn.ofE K mg E) Q μ F H (sem args st)
structure FnC (P : Program) (w : World) (K : PySem.W.Frag) (mg : Str → Option Value) (base : Heap) (k : Nat) (f : Addr) (fd : FuncData) (ps : List Str) (sem : Fs) : Prop where
  len : ∀ vs H Q E, spF ⟨K, w⟩ mg sem vs H Q E → vs.length = ps.length
  run : ∀ (A : Around) (outer : List Env) (s : Shared) (H : Hp) (args : Args) (us : List Value) (vs : List V) (Q : VK) (E : XK), Rm k A → Env0 P w K mg base A outer s H → BindsTo s fd args (ps.zip us) → Vals vs us → spF ⟨K, w⟩ mg sem vs H Q E →
    codeAny (model P w) A (.call (.ref f) args) (CR (L2.CX P w) outer P w H s Q E) s
/-- a def that is known by its name -/
def Kn (P : Program) (w : World) (K : PySem.W.Frag) (mg : Str → Option Value) (base : Heap) (x : Str) (k : Nat) (sem : Fs) : Prop :=
  ∃ f fd ps, mg x = some (.ref f) ∧ PySem.W.keepIn K (.ref f) = true ∧ Binds K fd ps [] ∧ FnC P w K mg base k f fd ps sem
section
variable {P : Program} {w : World} {K : PySem.W.Frag} {mg : Str → Option Value} {base : Heap} {x : Str} {k j : Nat} {sem : Fs}
theorem Kn.mono (h : Kn P w K mg base x j sem) (hk : j ≤ k) : Kn P w K mg base x k sem := by
  obtain ⟨f, fd, ps, h1, h2, h3, G⟩ := h
  exact ⟨f, fd, ps, h1, h2, h3, G.len, fun A outer s H args us vs Q E r => G.run A outer s H args us vs Q E (r.mono hk)⟩
/-- a meaning that says less -/
theorem Kn.less {sem' : Fs} (h : Kn P w K mg base x k sem) (hs : ∀ args st, sem' args st = .no ∨ sem' args st = sem args st) : Kn P w K mg base x k sem' := by
  obtain ⟨f, fd, ps, h1, h2, h3, G⟩ := h
  have go : ∀ {vs H Q E}, spF ⟨K, w⟩ mg sem' vs H Q E → spF ⟨K, w⟩ mg sem vs H Q E := fun {vs H Q E} ⟨args, st, μ, F, a, b, c⟩ => ⟨args, st, μ, F, a, b, by
    rcases hs args st with e | e
    · rw [e] at c; exact False.elim c
    · rw [e] at c; exact c⟩
  exact ⟨f, fd, ps, h1, h2, h3, fun vs H Q E h => G.len vs H Q E (go h), fun A outer s H args us vs Q E r e0 b v h => G.run A outer s H args us vs Q E r e0 b v (go h)⟩
end
/-! ### the call -/
def gcR (n : Nat) : Res Rv → Res Rv
  | .ok r s => match r with
    | .d x => .ok (.d x) (s.take n)
    | .s ns => .ok (.s ns) (s.take n)
    | .o x => .ok (.o x) (s.take n)
    | .n c => .ok (.n c) (s.take n)
    | .c i => if i < n then .ok (.c i) (s.take n) else match s[i]? with
      | some c => if isGone c = true then .no else .ok (.n c) (s.take n)
      | none => .no
  | .er e s => .er e (s.take n)
  | .no => .no
def mCall (sem : Fs) (mas : En → Sto → Res (List Vl)) : Ev := fun ρ st => (mas ρ st).bind fun xs s => gcR st.length (sem xs s)
/-- what a body's rules ask of where it stands -/
structure Bd (k : Nat) (X : Cx) (C : Cn) : Prop where
  cm : X.calm = true
  nd : X.N.Nodup
  hp : PassesOwn (model X.prog X.w) X.A X.env X.xe
  ps : ∀ σ, PassesAt (L2.CX X.prog X.w) X σ (C.at σ).E
  hK : C.K.K = X.K
  hw : C.K.w = X.w
  hm : C.mg = X.mg
  rm : Rm k X.A
  tk : Takes X C.W
theorem Bd.blk {k : Nat} {X : Cx} {C : Cn} (B : Bd k X C) (s : Shared) (H : Hp) (scope : Scope) (e : Env) (fp : List Addr) : Bd k (X.blk s H scope e fp) C.quiet :=
  ⟨B.cm, B.nd, PassesOwn.never, fun _ _ _ _ _ _ _ z => passL _ _ _ _ _ _ (by assumption) z, B.hK, B.hw, B.hm, B.rm, fun _ _ ⟨_, _, _, _, _, _, _, _, _, _, _, _, _, _, _, _, w⟩ => False.elim w⟩
theorem call_post {C : Cn} {Q : VK} {μ μ1 : Mu} {F H F1 H1 : Hp} {st : Sto} {r : Res Rv} (h0 : SR C.K μ F H st) (x : Ext μ F H μ1 F1 H1) (h : PostE C Q μ F H (gcR st.length r)) : PostE C Q μ1 F1 H1 r := by
  cases r with
  | no => exact h
  | er e s2 =>
    intro cls dd μ2 F2 H2 y r2 k
    obtain ⟨c1, c2, c3⟩ := r2.cut (x.trans y) st.length h0.len h0.pos
    exact h cls dd _ F2 H2 c2 c1 k
  | ok r s2 =>
    intro v μ2 F2 H2 o
    obtain ⟨y, r2, ok, new⟩ := o
    have z := x.trans y
    obtain ⟨c1, c2, c3⟩ := r2.cut z st.length h0.len h0.pos
    cases r with
    | d d => exact h v _ F2 H2 ⟨c2, c1, ok, fun _ e => nomatch e⟩
    | s ns => exact h v _ F2 H2 ⟨c2, c1, ok, fun _ e => nomatch e⟩
    | o x => exact h v _ F2 H2 ⟨c2, c1, ok, fun _ e => nomatch e⟩
    | n c =>
      obtain ⟨a, o, rfl, g1, g2, g3, g4⟩ := ok
      obtain ⟨a', e1, g5⟩ := new c rfl
      cases e1
      refine h _ _ F2 H2 ⟨c2, c1, ⟨a, o, rfl, g1, g2, g3, fun hm => g4 ?_⟩, fun _ _ => ⟨a, rfl, x.dom a g5⟩⟩
      rcases hm with hm | hm
      · obtain ⟨i, hi, q⟩ := List.getElem_of_mem hm
        have q2 : (μ2.l.take st.length).tail[i]? = some a := (List.getElem?_eq_getElem hi).trans (congrArg some q)
        rw [List.getElem?_tail] at q2
        have hi2 : i + 1 < st.length := by
          have := (List.getElem?_eq_some_iff.mp q2).1
          rw [List.length_take] at this; omega
        rw [List.getElem?_take_of_lt hi2] at q2
        exact Mu.mem_l q2 (by omega)
      · exact .inr hm
    | c i =>
      obtain ⟨a, ha, rfl⟩ := ok
      simp only [gcR] at h
      by_cases hi : i < st.length
      · rw [if_pos hi] at h
        exact h _ _ F2 H2 ⟨c2, c1, ⟨a, by show (μ2.l.take st.length)[i]? = _; rw [List.getElem?_take_of_lt hi]; exact ha, rfl⟩, fun _ e => nomatch e⟩
      · rw [if_neg hi] at h
        cases q : s2[i]? with
        | none => simp only [q] at h; exact False.elim h
        | some cl =>
          simp only [q] at h
          have hz : isGone cl = false := by
            cases e : isGone cl with
            | false => rfl
            | true => rw [if_pos e] at h; exact False.elim h
          rw [if_neg (by rw [hz]; exact Bool.false_ne_true)] at h
          obtain ⟨b, o, g1, g2, g3⟩ := r2.cell i cl q hz
          rw [ha] at g1; cases g1
          have i0 := r2.ne0 q hz
          have hmem : a ∈ μ2 := Mu.mem_l ha i0
          have hn : a ∉ μ2.take st.length := fun hm => by
            rcases hm with hm | hm
            · obtain ⟨j, hj, e⟩ := List.getElem_of_mem hm
              have q2 : (μ2.l.take st.length).tail[j]? = some a := (List.getElem?_eq_getElem hj).trans (congrArg some e)
              rw [List.getElem?_tail] at q2
              have hj2 : j + 1 < st.length := by
                have := (List.getElem?_eq_some_iff.mp q2).1
                rw [List.length_take] at this; omega
              rw [List.getElem?_take_of_lt hj2] at q2
              have := r2.one ha q2 i0 (by omega)
              omega
            · obtain ⟨j, hj, e⟩ := List.getElem_of_mem hm
              exact r2.apart ha ((List.getElem?_eq_getElem hj).trans (congrArg some e)) i0 rfl
          have hn0 : a ∉ μ := fun hm => hn (by
            rcases hm with hm | hm
            · rw [c3] at hm; exact .inl hm
            · obtain ⟨r, e⟩ := z.preη
              exact .inr (by show a ∈ μ2.η; rw [e]; exact List.mem_append_left _ hm))
          exact h _ _ F2 H2 ⟨c2, c1, ⟨a, o, rfl, g2, g3, r2.sep i a cl ha q (notDead hz), hn⟩, fun _ _ => ⟨a, rfl, (z.nC a hmem).elim (fun e => absurd e hn0) id⟩⟩
theorem Post.bindA0 {C : Cn} {μ : Mu} {F H : Hp} {β : Type} {G : β → Sto → Mu → Hp → Hp → Prop} {m : Res (List Vl)} {k : List Vl → Sto → Res β} {Q : List V → Hp → Prop} (h : Post C G μ F H (m.bind k))
    (hk : ∀ x s v μ1 F1 H1, Ext μ F H μ1 F1 H1 → SR C.K μ1 F1 H1 s → VokAll C.K F1 μ1 x v → Post C G μ F H (k x s) → Q v H1) : PostA C Q μ F H m := by
  cases m with
  | ok x s => exact fun v μ1 F1 H1 e s1 o => hk x s v μ1 F1 H1 e s1 o h
  | er e s => exact h
  | no => exact h
section
variable {X : Cx} {C : Cn} {k j : Nat} {x : Str} {p pos : Pos} {e : Expr} {es : List Expr} {mas : En → Sto → Res (List Vl)} {sem : Fs}
theorem s_call (B : Bd k X C) (G : Kn X.prog X.w X.K X.mg X.base x j sem) (hj : j ≤ k) (hg : Gl X x) (ha : PA X (e :: es) (tAs C mas)) (hdb : (x == ("__debug__" : Str)) = false := by decide)
    (he : starEach (e :: es) X.env = (false, eval e X.env) :: starEach es X.env := by rfl) (hpl : (backTo pos (starEach es X.env)).any (·.1) = false := by rfl) : PE X (.Call (.Name x p) (e :: es) [] pos) (tM C (mCall sem mas)) := by
  obtain ⟨f, fd, ps, hm, hkp, hb, G⟩ := G
  obtain ⟨⟨K, w⟩, mg, W, σC⟩ := C
  obtain rfl : K = X.K := B.hK
  obtain rfl : w = X.w := B.hw
  obtain rfl : mg = X.mg := B.hm
  refine ⟨fun pins s σ H Q I ⟨ρ, st, μ, F, h1, h2, h3⟩ => ?_⟩
  refine wpAny_Call_Name_kw (ld_glob I hg hm ?_ hdb)
  refine PySem.W.callWith_K (h₀ := X.base) I.ok.mod.kin hkp (thn (ha.run pos pins s σ H (fun vs H1 => spF ⟨X.K, X.w⟩ X.mg sem vs H1 Q fun cls d H => W cls d σ H) I ⟨ρ, st, μ, F, h1, h2, Post.bindA0 h3 fun xs s1 vs μ1 F1 H1 x1 r1 k1 h4 => ?_⟩) fun us s1 ⟨vs, H1, I1, r, q⟩ => ⟨I1.kIn, ?_⟩) he hpl
  · exact ⟨xs, s1, μ1, F1, k1, r1, call_post h2 x1 h4⟩
  · have hl : us.length = ps.length := by rw [← r.length]; exact G.len _ _ _ _ q
    refine wpAny_call (codeAny_mono (G.run X.A X.stack s1 H1 ⟨us, []⟩ us vs Q (fun cls d H => W cls d σ H) (B.rm.mono hj) I1.env0 (by have hb' := hb s1 us I1.kIn (by simpa using hl); rw [List.append_nil] at hb'; exact hb') r q) fun r' s' hq => ?_)
    cases r' with
    | error e => exact B.ps σ pins H1 s1 e s' I1 hq
    | ok fl =>
      cases fl with
      | ret u => exact I1.after hq
      | next => exact False.elim hq
      | brk => exact False.elim hq
      | cont => exact False.elim hq
end
/-! ### a def of the text means its body -/
def bodyF (n k : Nat) (b : Sv) : Fs := fun args st => if args.length = k then match b (args.map some ++ List.replicate (n - args.length) none) st with
    | .rt r s => .ok r s
    | .nx _ s => .ok (.d .none) s
    | .er e s => .er e s
    | _ => .no
  else .no
section
variable {P : Program} {w : World} {K : PySem.W.Frag} {mg : Str → Option Value} {base : Heap} {k : Nat} {x : Str} {N ps : List Str} {sb : Sv}
theorem VokAll.length {K : Kw} {F : Hp} {μ : Mu} : ∀ {xs : List Vl} {vs : List V}, VokAll K F μ xs vs → xs.length = vs.length
  | _, _, .nil => rfl
  | _, _, .cons _ r => by rw [List.length_cons, List.length_cons, VokAll.length r]
theorem start_ok {K : Kw} {F : Hp} {μ : Mu} {args : List Vl} {vs : List V} (N : List Str) (h : VokAll K F μ args vs) : Eok K F μ (args.map some ++ List.replicate (N.length - args.length) none) (L2.start N vs) := by
  have hl := h.length
  refine ⟨by unfold L2.start; simp [hl], fun i y e => ?_⟩
  unfold L2.start
  by_cases hi : i < args.length
  · rw [List.getElem?_append_left (by simpa using hi), List.getElem?_map] at e
    rw [List.getElem?_append_left (by rw [List.length_map, ← hl]; exact hi), List.getElem?_map]
    have key : ∀ {xs : List Vl} {vs : List V} {i : Nat} {y : Vl}, VokAll K F μ xs vs → xs[i]? = some y → ∃ v, vs[i]? = some v ∧ Vok K F μ y v := by
      intro xs vs i y h e
      induction h generalizing i with
      | nil => simp at e
      | cons h1 r ih =>
        cases i with
        | zero => simp at e; subst e; exact ⟨_, rfl, h1⟩
        | succ i =>
          obtain ⟨v, k1, k2⟩ := ih (by simpa using e)
          exact ⟨v, by simpa using k1, k2⟩
    cases q : args[i]? with
    | none => rw [q] at e; cases e
    | some z =>
      rw [q] at e; cases e
      obtain ⟨v, k1, k2⟩ := key h q
      exact ⟨v, by rw [k1]; rfl, k2⟩
  · rw [List.getElem?_append_right (by simpa using hi), List.getElem?_replicate] at e
    split at e <;> cases e
theorem fn_of {st : Stmt} {f : Addr} {fd : FuncData} (F : Fun K x x st f fd) (S : FnScope N ps (defScope st))
    (body : ∀ (cdv : Value) (A : Around) (outer : List Env) (s : Shared) (H : Hp) (E : XK), Bd k (cxOf (L2.CX P w) P w K mg base N x (defScope st) f cdv A outer s H E) (Cn.ofE ⟨K, w⟩ mg E) →
      PSs (cxOf (L2.CX P w) P w K mg base N x (defScope st) f cdv A outer s H E) (defBody st) (tS (Cn.ofE ⟨K, w⟩ mg E) sb)) : FnC P w K mg base (k + 1) f fd ps (bodyF N.length ps.length sb) := by
  obtain ⟨oc, od, kV, doc, pm, an, cdv, ct, osl, rfl, lk, hcd⟩ := F.ex
  have hlen : ∀ vs H Q E, spF ⟨K, w⟩ mg (bodyF N.length ps.length sb) vs H Q E → vs.length = ps.length := fun vs H Q E ⟨args, st, μ, F, a, b, c⟩ => by
    unfold bodyF at c
    by_cases hl : args.length = ps.length
    · rw [← a.length, hl]
    · rw [if_neg hl] at c; exact False.elim c
  refine ⟨hlen, fun A outer s H args us vs Q E hr e0 hbd r hsp => ?_⟩
  have hl := hlen _ _ _ _ hsp
  have KX : K.In s.heap := e0.mod.kin.keeps fun b o e => (e0.bs b o e).1
  have lim : s.heap.NoLimit := e0.mod.nolimit.keeps fun b o e => (e0.bs b o e).1
  have hkind : ∀ y ∈ ps.zip us, (defScope st).names.lookup y.1 = some .local ∨ ((defScope st).names.lookup y.1 = some .cell ∧ ((cellsFrom (s.heap.objs.size + 1) (defScope st).names []).lookup y.1).isSome = true) := fun ⟨n, v⟩ hy =>
    (S.par n (List.of_mem_zip hy).1).imp id fun q => ⟨q, PySem.W.cellsFrom_some _ _ _ (.inl q)⟩
  refine codeAny_call_function hr.room.depth (KX _ _ lk) rfl S.co S.gen rfl (PySem.W.codeRec_of KX hcd) (hbd _ _ _ _ ?_)
  refine wpAny_newFunctionEnv_cells S.kind hkind fun env he s1 y => ?_
  subst he
  refine ⟨lim.keeps y.toInCall.keep, codeAny_func ?_⟩
  have hr2 : Rm k (A.deeper (PyProof.Rows.envOfC x (defScope st) s.heap.objs.size f cdv)) := ⟨hr.room.deeper _, hr.gd⟩
  have I : Inv (cxOf (L2.CX P w) P w K mg base N x (defScope st) f cdv A outer s H E) [] (L2.start N vs) H s1 := inv_start S hr.room.hd e0 hl r y
  have bd : Bd k (cxOf (L2.CX P w) P w K mg base N x (defScope st) f cdv A outer s H E) (Cn.ofE ⟨K, w⟩ mg E) := ⟨rfl, S.nd, passes_of rfl, fun σ pins H s e s' I c => passes_call (takes_of rfl rfl rfl rfl) (fun _ _ _ _ h => h) pins σ H s e s' I c, rfl, rfl, rfl, hr2, takes_of rfl rfl rfl rfl⟩
  obtain ⟨as, st0, μ, F0, a, b, c⟩ := hsp
  have hal : as.length = ps.length := by rw [a.length, hl]
  unfold bodyF at c
  rw [if_pos hal] at c
  refine wpAny_mono ((body cdv A outer s H E bd).run [] s1 (L2.start N vs) H { nx := fun _ H' => Q .non H', rt := Q } I ⟨_, st0, μ, F0, start_ok N a, b, ?_⟩) (fun fl s' hs => ?_) fun e s' hs => hs
  · show PostS _ _ μ F0 H (sb (as.map some ++ List.replicate (N.length - as.length) none) st0)
    cases q : sb (as.map some ++ List.replicate (N.length - as.length) none) st0 with
    | rt r s => simp only [q] at c; exact c
    | nx ρ s => simp only [q] at c; exact fun σ' μ' F' H' x2 r2 _ => c .non μ' F' H' ⟨x2, r2, .non, fun _ e => nomatch e⟩
    | er e s => simp only [q] at c; exact c
    | bk ρ s => simp only [q] at c; exact False.elim c
    | ct ρ s => simp only [q] at c; exact False.elim c
    | no => simp only [q] at c; exact False.elim c
  · have fin : ∀ {σ' : St} {H' : Hp} {v : V} {u : Value}, Inv (cxOf (L2.CX P w) P w K mg base N x (defScope st) f cdv A outer s H E) [] σ' H' s' → RelV v u → Q v H' → CE outer P w H s Q u s' :=
      fun {σ' H' v u} J rv q => ⟨v, H', J.os, J.bare, J.base, J.hok, rv, q⟩
    cases fl with
    | ret u => obtain ⟨v, σ', H', J, rv, q⟩ := hs; exact fin J rv q
    | next => obtain ⟨σ', H', J, q⟩ := hs; exact fin (v := V.non) (u := Value.none) J rfl q
    | brk => obtain ⟨_, _, _, q⟩ := hs; exact False.elim q
    | cont => obtain ⟨_, _, _, q⟩ := hs; exact False.elim q
end
end Cp
/-! Cpe: the end of a law. -/
namespace Cp
open PySem L2
section
open PySem.W PyProof.Rows
variable {P : Program} {w : World} {K : Frag} {mg mb : Str → Option Value} {k : Nat} {fa a : Addr} {fd : FuncData} {x : Str} {sem : Fs} {s0 : Shared} {vs : List Value} {ns : List Int}
/-- the law's own call where at most the script is tracked -/
theorem law_core (KX : K.In s0.heap) (hns : s0.heap.Ns mainGlobals mg) (hb : s0.heap.Ns builtinsNs mb) (hbb : ∀ y : Str, y ≠ "__name__" → mb y = bootBuiltins y) (hlim : s0.heap.NoLimit) (hg : s0.gens = #[])
    (ha : s0.heap.get? a = some { cls := .type "list", data := .seq vs.toArray }) (hr : Rm k callerA)
    (F : ∀ base : Heap, K.In base → base.Ns mainGlobals mg → FnC P w K mg base k fa fd [x] sem) (hbind : ∀ (s : Shared) (u : Value), BindsTo s fd ⟨[u], []⟩ [(x, u)])
    (H : Hp) (hO : Only H) (hS : SqL K H a (ns.map V.int)) (hok : HOk P w H s0.heap) (hA : ∀ b, H b ≠ none → b = a) (hK : H a ≠ none → K.lookup a = none) (hsem : ∃ st, sem [.s ns] [heapC []] = .ok (.d (.bool true)) st) :
    codeAny (model P w) callerA (.call (.ref fa) ⟨[.ref a], []⟩) (fun r s' => r = .ok (.ret (.bool true)) ∧ OldK s0.heap s'.heap ∧ s'.os = s0.os ∧ AllBare s'.gens) s0 := by
  have isA : ∀ {b : Addr} {u : HO}, H b = some u → b = a := fun {b u} q => hA b fun z => by rw [z] at q; cases q
  have notDict : ∀ {b : Addr} {o : Obj} {es : Array DictEntry} {n : Nat}, s0.heap.get? b = some o → o.data = .dict es n → H b = none := fun {b o es n} e d => by
    cases q : H b with
    | none => rfl
    | some u =>
      have := isA q
      subst this
      rw [ha] at e; cases e
      cases (show Data.seq vs.toArray _ = Data.dict es n from d)
  have same : ∀ {b : Addr} {m : Str → Option Value}, s0.heap.Ns b m → (hidT s0.heap H).Ns b m := fun ⟨o, es, n, e, d, r⟩ => ⟨o, es, n, hidT_get e (notDict e d), d, r⟩
  have inB : K.In (hidT s0.heap H) := fun b o e => hidT_get (KX b o e) (by
    cases q : H b with
    | none => rfl
    | some u =>
      have := isA q
      subst this
      rw [hK (by rw [q]; exact fun z => by cases z)] at e
      cases e)
  have M : Mod K mg (hidT s0.heap H) := ⟨inB, same hns, ⟨mb, same hb, hbb⟩, let ⟨mc, h1, h2⟩ := hlim; ⟨mc, same h1, h2⟩⟩
  have none0 : ∀ b : Addr, b ∉ frs [] := fun b z => by cases z
  have e0 : Env0 P w K mg (hidT s0.heap H) callerA [] s0 H := ⟨rfl, M, fun b o e => of_hidT e, Nat.le_of_eq (hidT_size _ _), trivial, fun b z => absurd z (none0 b), hok, .of_eq hg⟩
  obtain ⟨st, hsem⟩ := hsem
  have sp : spF ⟨K, w⟩ mg sem [.ref a] H (fun v _ => v = .bl true) (fun _ _ _ => False) := by
    refine ⟨[.s ns], [heapC []], ⟨[a], []⟩, H, .cons ⟨a, rfl, hS⟩ .nil, ⟨List.nodup_nil, rfl, (fun i b c z z2 z3 => by
      cases i with
      | zero => cases z2; cases z3
      | succ i => simp at z2), Same.refl H, (fun i c i0 z => by
      cases i with
      | zero => exact absurd rfl i0
      | succ i => simp at z), ⟨[], rfl, rfl, fun j x z => by simp at z⟩⟩, ?_⟩
    rw [hsem]
    intro v μ' F' H' o
    cases (show Dq ⟨K, w⟩ F' v (.bool true) from o.rok)
    rfl
  refine codeAny_mono ((F _ inB (same hns)).run callerA [] s0 H ⟨[.ref a], []⟩ [.ref a] [.ref a] _ _ hr e0 (hbind s0 (.ref a)) (.cons rfl .nil) sp) fun r s' h => ?_
  cases r with
  | error e =>
    obtain ⟨_, _, _, _, _, _, _, _, _, _, _, _, z⟩ := h
    exact z.elim
  | ok fl =>
    cases fl with
    | ret u =>
      obtain ⟨v, H', os, bare, un, hok', rv, q⟩ := h
      cases (show v = .bl true from q)
      cases (show u = Value.bool true from rv)
      refine ⟨rfl, OldK.of_keep fun b o e => ?_, os, bare⟩
      cases q : H b with
      | none => exact un.keep b o e q (none0 b) (by simp)
      | some u =>
        rcases hO b with z | ⟨ob, xs, z⟩
        · rw [q] at z; cases z
        · obtain ⟨e1, _⟩ := hok b _ z
          obtain ⟨e2, _⟩ := hok' b _ (un.frzs b ob _ z)
          rw [e] at e1; cases e1
          exact e2
    | next => exact False.elim h
    | brk => exact False.elim h
    | cont => exact False.elim h
theorem law_any (KX : K.In s0.heap) (hns : s0.heap.Ns mainGlobals mg) (hb : s0.heap.Ns builtinsNs mb) (hbb : ∀ y : Str, y ≠ "__name__" → mb y = bootBuiltins y) (hlim : s0.heap.NoLimit) (hg : s0.gens = #[])
    (ha : s0.heap.get? a = some { cls := .type "list", data := .seq vs.toArray }) (hi : IntsAre vs ns) (hl : ns.length ≤ sizeLine) (hr : Rm k callerA)
    (F : ∀ base : Heap, K.In base → base.Ns mainGlobals mg → FnC P w K mg base k fa fd [x] sem) (hbind : ∀ (s : Shared) (u : Value), BindsTo s fd ⟨[u], []⟩ [(x, u)]) (hsem : ∃ st, sem [.s ns] [heapC []] = .ok (.d (.bool true)) st) :
    codeAny (model P w) callerA (.call (.ref fa) ⟨[.ref a], []⟩) (fun r s' => r = .ok (.ret (.bool true)) ∧ OldK s0.heap s'.heap ∧ s'.os = s0.os ∧ AllBare s'.gens) s0 := by
  have rv := vals_ints hi
  have hl2 : (ns.map V.int).length ≤ sizeLine := by rw [List.length_map]; exact hl
  have go := law_core (ns := ns) KX hns hb hbb hlim hg ha hr F hbind
  cases hk : K.lookup a with
  | some o =>
    have e := KX a o hk
    rw [ha] at e; cases e
    exact go (fun _ => none) (fun _ => .inl rfl) (.inr ⟨_, vs.toArray, _, hk, rfl, rfl, rfl, by rw [List.size_toArray, ← rv.length]; exact hl2, by simpa using rv⟩) (fun b u z => by cases (show (none : Option HO) = some u from z)) (fun b z => absurd rfl z) (fun z => absurd rfl z) hsem
  | none =>
    have at1 : (fun b => if b = a then some (HO.frz { cls := .type "list", data := .seq vs.toArray } (.lst (ns.map V.int))) else none) a = some (HO.frz { cls := .type "list", data := .seq vs.toArray } (.lst (ns.map V.int))) := if_pos rfl
    have at2 : ∀ {b u}, (fun b => if b = a then some (HO.frz { cls := .type "list", data := .seq vs.toArray } (.lst (ns.map V.int))) else none) b = some u → b = a ∧ u = HO.frz { cls := .type "list", data := .seq vs.toArray } (.lst (ns.map V.int)) := fun {b u} z => by
      by_cases h : b = a
      · exact ⟨h, by have z' := (if_pos h).symm.trans z; cases z'; rfl⟩
      · have z' := (if_neg h).symm.trans z; cases z'
    refine go (fun b => if b = a then some (.frz { cls := .type "list", data := .seq vs.toArray } (.lst (ns.map V.int))) else none) (fun b => ?_) (.inl (.inr ⟨_, at1⟩)) (fun b u z => ?_) (fun b z => ?_) (fun _ => hk) hsem
    · by_cases h : b = a
      · exact .inr ⟨_, _, if_pos h⟩
      · exact .inl (if_neg h)
    · obtain ⟨rfl, rfl⟩ := at2 z
      exact ⟨ha, hl2, vs, _, rv, ha⟩
    · by_cases h : b = a
      · exact h
      · exact absurd (if_neg h) z
theorem law_room {k : Nat} (h : k ≤ 230) : Rm k callerA := ⟨⟨rfl, by show 1 + 300 + 3 * k + 5 < 1000; omega, by show 4 + 16 * k + 200 < 9900; omega⟩, rfl⟩
end
end Cp
/-! Cpo: the rules by Python's words, defs by the head's facts. -/
namespace Cp
open PySem L2
section
open PySem.Spec PyProof.Rows
/-- a tuple times one, times nothing -/
theorem tuple_mul1 (l : Addr) (items : Array Value) (n : Nat) (dd : Option Addr) (sl : Array (Option Value)) (u : Tok) :
    Meets (Builtin.«tuple.__mul__» ⟨[.ref l, .int 1 u], []⟩) (fun _ R s => s.heap.get? l = some { cls := .type "tuple", dict := dd, data := .seq items n, slots := sl } ∧ R (.ok (.ret (Value.ref l))) s) :=
  .of_wp fun prog w A R s h => by
    obtain ⟨hp, g, d, tk, os⟩ := s
    obtain ⟨hl, h⟩ := h
    have f1 := AutoSeq1.idx_int
    wp_walk using wpAny_loadPart' hl
    have c1 : ((items.isEmpty || (1 : Int) == 1) = true) := by rw [Bool.or_eq_true]; exact .inr rfl
    repeat (first
      | (refine wpAny_ite_false (decide_eq_false (by decide)) ?_; wp_walk using wpAny_loadPart' hl)
      | (refine wpAny_ite_true (decide_eq_true c1) ?_; wp_walk using wpAny_loadPart' hl))
    exact ⟨_, rfl, h⟩
theorem tuple_mul0 (l : Addr) (items : Array Value) (n : Nat) (dd : Option Addr) (sl : Array (Option Value)) (x : Int) (u : Tok) (c0 : (decide (x < -(2 ^ 63)) || decide (x ≥ 2 ^ 63)) = false) (c1 : (items.isEmpty || x == 1) = false) (c2 : (decide (x ≤ 0) || items.isEmpty) = true) :
    Meets (Builtin.«tuple.__mul__» ⟨[.ref l, .int x u], []⟩) (fun _ R s => s.heap.get? l = some { cls := .type "tuple", dict := dd, data := .seq items n, slots := sl } ∧
      R (.ok (.ret (Value.ref s.heap.objs.size))) { s with heap := s.heap.push { cls := Value.type "tuple", data := Data.seq #[] }, toks := s.toks }) :=
  .of_wp fun prog w A R s h => by
    obtain ⟨hp, g, d, tk, os⟩ := s
    obtain ⟨hl, h⟩ := h
    have f1 := AutoSeq1.idx_int
    wp_walk using wpAny_loadPart' hl
    repeat (first
      | (refine wpAny_ite_false (decide_eq_false (by rw [c0]; exact Bool.false_ne_true)) ?_; wp_walk using wpAny_loadPart' hl)
      | (refine wpAny_ite_false (decide_eq_false (by rw [c1]; exact Bool.false_ne_true)) ?_; wp_walk using wpAny_loadPart' hl)
      | (refine wpAny_ite_true (decide_eq_true c2) ?_; wp_walk using wpAny_loadPart' hl))
    exact ⟨_, rfl, h⟩
def rRepT2 (K : PySem.W.Frag) : R2 := fun x y H Q => ∃ l k xs, x = .ref l ∧ y = .int k ∧ SqT K H l xs ∧ xs ≠ [] ∧ -1000 ≤ k ∧ k ≤ 1 ∧ xs.length ≤ 1000 ∧ (k = 1 → Q (.ref l) H) ∧ (k ≤ 0 → ∀ p, H p = none → Q (.ref p) (upd H p (.tup [])))
theorem op_repT2 {X : Cx} : OpR X (binaryOp .Mult) (rRepT2 X.K) := by
  intro pins s σ H x y v u Q I rx ry h
  obtain ⟨l, k, xs, rfl, rfl, hT, hne, h1, h2, hz, q1, q0⟩ := h
  cases rx
  obtain ⟨t, rfl⟩ := ry
  obtain ⟨its, r, ⟨⟨cls, dd, data, sl⟩, ho, hc, n, hd⟩, hs⟩ := I.tuple hT
  simp only at hc hd
  subst hc hd
  have hle : its.length = xs.length := r.length.symm
  have hn : its ≠ [] := fun e => hne (by
    rw [e] at hle
    exact List.eq_nil_of_length_eq_zero hle.symm)
  have hi : its.toArray.isEmpty = false := by
    cases its with
    | nil => exact absurd rfl hn
    | cons a b => rfl
  by_cases hk : k = 1
  · subst hk
    exact wpAny_binaryOp_repeat_ref (T := "tuple") (U := "int") (by decide) ⟨_, ho, rfl⟩ (fun s' => typeIs_int s' 1 t) noFill_tuple_mul F.fills_int_mul F.slot_int_rmul repeat_tuple F.slot_int_index.lookup
      (call_meets F.slot_int_rmul (typeIs_int s 1 t) F.entry_int_rmul (F.args_int_rmul_2 _ _) (int_rmul_tuple 1 t l its.toArray n dd sl)
        ⟨ho, rfl, ⟨_, ho, rfl⟩, call_meets F.slot_tuple_mul ⟨_, ho, rfl⟩ F.entry_tuple_mul (F.args_tuple_mul_2 _ _) (tuple_mul1 l its.toArray n dd sl t) ⟨ho, .ref l, H, I, rfl, q1 rfl⟩⟩)
  · have c0 : (decide (k < -(2 ^ 63)) || decide (k ≥ 2 ^ 63)) = false := by
      rw [decide_eq_false (by omega), decide_eq_false (by omega)] <;> rfl
    have c1 : (its.toArray.isEmpty || k == 1) = false := by
      rw [hi, Bool.false_or]
      exact beq_eq_false_iff_ne.mpr hk
    have c2 : (decide (k ≤ 0) || its.toArray.isEmpty) = true := by
      rw [decide_eq_true (by omega)]; rfl
    refine wpAny_binaryOp_repeat_ref (T := "tuple") (U := "int") (by decide) ⟨_, ho, rfl⟩ (fun s' => typeIs_int s' k t) noFill_tuple_mul F.fills_int_mul F.slot_int_rmul repeat_tuple F.slot_int_index.lookup
      (call_meets F.slot_int_rmul (typeIs_int s k t) F.entry_int_rmul (F.args_int_rmul_2 _ _) (int_rmul_tuple k t l its.toArray n dd sl)
        ⟨ho, rfl, ⟨_, ho, rfl⟩, call_meets F.slot_tuple_mul ⟨_, ho, rfl⟩ F.entry_tuple_mul (F.args_tuple_mul_2 _ _) (tuple_mul0 l its.toArray n dd sl k t c0 c1 c2) ⟨ho, ?_⟩⟩)
    refine ⟨.ref s.heap.objs.size, _, I.laid (t' := s.toks) (o := .tup []) (fun b ob q => Heap.get?_push_of_some _ q) (Nat.le_refl _) ?_, rfl, q0 (by omega) _ (I.hok.fresh (Nat.le_refl _))⟩
    exact ⟨Nat.zero_le _, [], .nil, IsTup.new _ _⟩
end
section
variable {X : Cx} {C : Cn} {k j : Nat} {x : Str} {p pos apos : Pos} {e a b c : Expr} {es : List Expr} {m ma mb mc : Ev} {mas : En → Sto → Res (List Vl)}
/-- + -/
def fAdd : PyData → PyData → Option Rv
  | .int i, .int j => some (.d (.int (i + j)))
  | .str i, .str j => if i.length + j.length ≤ sizeLine then some (.d (.str (i ++ j))) else none
  | .tuple i, .tuple j => if i.length + j.length ≤ sizeLine then some (.d (.tuple (i ++ j))) else none
  | .list i, .list j => if i.length + j.length ≤ sizeLine then some (.n (.l (i ++ j))) else none
  | _, _ => none
theorem BinOk.of {r : R2} {f g : PyData → PyData → Option Rv} (h : BinOk C r f) (e : ∀ a b z, g a b = some z → f a b = some z) : BinOk C r g := fun a b res v u μ F H st Q s va vb q p => h a b res v u μ F H st Q s va vb (e a b res q) p
theorem s_add (ha : PE X a (tM C ma)) (hb : PE X b (tM C mb)) : PE X (.BinOp a .Add b pos) (tM C (mBin fAdd ma mb)) :=
  s_bin (op_add.or (op_add_str.or (op_catA.or op_cat))) (BinOk.of (fI0_ok.or (fCatS_ok.or (fCatT_ok.or fCatL_ok))) fun a b z h => by
    cases a <;> cases b <;> first | exact h | (simp only [fI, fCatS, fCatT, fCatL, fAdd, if_true] at h ⊢; first | exact h | (split at h <;> first | (cases h; done) | (cases h; simp [*])))) ha hb
theorem s_sub (ha : PE X a (tM C ma)) (hb : PE X b (tM C mb)) : PE X (.BinOp a .Sub b pos) (tM C (mBin (fI (fun _ _ => true) fun i j => i - j) ma mb)) := s_bin op_sub fI0_ok ha hb
def pMul (i j : Int) : Bool := decide (i.natAbs.log2 + j.natAbs.log2 < 1000000)
def repD (xs : List PyData) (k : Int) : List PyData := (List.replicate k.toNat xs).flatten
/-- * -/
def fMul : PyData → PyData → Option Rv
  | .int i, .int j => if pMul i j then some (.d (.int (i * j))) else none
  | .list xs, .int k => if -(2 ^ 63) ≤ k ∧ k < 2 ^ 63 ∧ xs.length * k.toNat ≤ sizeLine then some (.n (.l (repD xs k))) else none
  | .tuple xs, .int k => if xs ≠ [] ∧ -1000 ≤ k ∧ k ≤ 1000 ∧ xs.length ≤ 1000 then some (.d (.tuple (repD xs k))) else none
  | _, _ => none
theorem rep_dq {K : Kw} {F : Hp} {xs : List V} {ds : List PyData} (h : DqAll K F xs ds) (n : Nat) : DqAll K F (List.replicate n xs).flatten (List.replicate n ds).flatten := by
  induction n with
  | zero => exact .nil
  | succ n ih => rw [List.replicate_succ, List.replicate_succ, List.flatten_cons, List.flatten_cons]; exact h.app ih
theorem fMul_ok {K : PySem.W.Frag} : BinOk C (fun x y H Q => rI CMulW (fun i j => .int (i * j)) x y H Q ∨ rRep x y H Q ∨ rRepT K x y H Q ∨ rRepT2 K x y H Q) fMul := by
  intro a b res v u μ F H st Q s va vb e h
  unfold fMul at e
  split at e
  · split at e
    · rename_i hh
      cases e
      exact .inl ⟨_, _, va.int, vb.int, (by simpa [pMul, CMulW] using hh), fin_d s h (.int _)⟩
    · cases e
  · split at e
    · rename_i hh
      cases e
      obtain ⟨q, ys, rfl, q1, q2⟩ := va
      exact .inr (.inl ⟨q, _, ys, rfl, vb.int, q1, hh.1, hh.2.1, by rw [q2.length]; exact hh.2.2, fun z hz => fin_n s h hz ⟨_, rfl, rep_dq q2 _⟩⟩)
    · cases e
  · split at e
    · rename_i xs k hh
      cases e
      obtain ⟨q, ys, rfl, q1, q2⟩ := va.tup
      have ne : ys ≠ [] := fun z => hh.1 (by subst z; cases q2; rfl)
      have hln : ys.length ≤ 1000 := by rw [q2.length]; exact hh.2.2.2
      by_cases h2 : 2 ≤ k
      · exact .inr (.inr (.inl ⟨q, _, ys, rfl, vb.int, SqT.rd s.sub q1, ne, h2, hh.2.2.1, hln, fun z hz => fin_t s h hz (rep_dq q2 _)⟩))
      · refine .inr (.inr (.inr ⟨q, _, ys, rfl, vb.int, SqT.rd s.sub q1, ne, hh.2.1, by omega, hln, fun e1 => ?_, fun e0 z hz => ?_⟩))
        · subst e1
          have e : repD xs 1 = xs := by unfold repD; simp
          rw [e] at h
          exact fin_d s h (.tup q1 q2)
        · have e : repD xs k = [] := by unfold repD; rw [Int.toNat_of_nonpos e0]; rfl
          rw [e] at h
          exact fin_t s h hz .nil
    · cases e
  · cases e
def pDiv (_ j : Int) : Bool := decide (0 < j) && decide (j.natAbs.log2 < 9000)
theorem s_fdiv (ha : PE X a (tM C ma)) (hb : PE X b (tM C mb)) : PE X (.BinOp a .FloorDiv b pos) (tM C (mBin (fI pDiv fun i j => i / j) ma mb)) :=
  s_bin op_fdivW (fI_ok fun i j h => by simpa [pDiv, CDivW] using h) ha hb
def pPos (_ j : Int) : Bool := decide (0 < j)
theorem s_mod (ha : PE X a (tM C ma)) (hb : PE X b (tM C mb)) : PE X (.BinOp a .Mod b pos) (tM C (mBin (fI pPos fun i j => i % j) ma mb)) := s_bin op_mod (fI_ok fun i j h => of_decide_eq_true h) ha hb
def CPowW (i j : Int) : Prop := 0 ≤ j ∧ (Builtin.Int.intBits i : Int) * j ≤ 2 ^ 27
theorem op_powW : OpR X (binaryOp .Pow) (rI CPowW fun i j => .int (i ^ j.toNat)) := opI fun _ _ _ _ _ _ _ hc q => PyProof.Rows.pow_int hc.1 hc.2 q
def pPow (i j : Int) : Bool := decide (0 ≤ j) && decide ((Builtin.Int.intBits i : Int) * j ≤ 2 ^ 27)
theorem s_pow (ha : PE X a (tM C ma)) (hb : PE X b (tM C mb)) : PE X (.BinOp a .Pow b pos) (tM C (mBin (fI pPow fun i j => i ^ j.toNat) ma mb)) :=
  s_bin op_powW (fI_ok fun i j h => by unfold pPow at h; simp only [Bool.and_eq_true, decide_eq_true_eq] at h; exact ⟨h.1, h.2⟩) ha hb
def fNeg : PyData → Option PyData
  | .int i => some (.int (-i))
  | _ => none
def mNeg (m : Ev) : Ev := fun ρ st => (mV m ρ st).bind fun x s => match (view s x).bind fNeg with
  | some d => .ok (.d d) s
  | none => .no
/-! ### comparisons: as a test, as a value -/
theorem t_eq (B : Bd k X C) (ha : PE X a (tM C ma)) (hb : PE X b (tM C mb)) : PT X (.Compare a [.Eq] [b] pos) (tT C (mCmp gEq ma mb)) := s_cmpT (op_eqD B.rm.hu) gEq_ok ha hb (nomark _)
theorem t_ne (B : Bd k X C) (ha : PE X a (tM C ma)) (hb : PE X b (tM C mb)) : PT X (.Compare a [.NotEq] [b] pos) (tT C (mCmp gNe ma mb)) := s_cmpT (op_neD B.rm.hu) gNe_ok ha hb (nomark _)
theorem t_lt (ha : PE X a (tM C ma)) (hb : PE X b (tM C mb)) : PT X (.Compare a [.Lt] [b] pos) (tT C (mCmp (gI fun i j => decide (i < j)) ma mb)) := s_cmpT op_lt gI_ok ha hb (nomark _)
theorem t_le (ha : PE X a (tM C ma)) (hb : PE X b (tM C mb)) : PT X (.Compare a [.LtE] [b] pos) (tT C (mCmp (gI fun i j => decide (i ≤ j)) ma mb)) := s_cmpT op_le gI_ok ha hb (nomark _)
theorem t_gt (ha : PE X a (tM C ma)) (hb : PE X b (tM C mb)) : PT X (.Compare a [.Gt] [b] pos) (tT C (mCmp (gI fun i j => decide (j < i)) ma mb)) := s_cmpT op_gt gI_ok ha hb (nomark _)
theorem t_isN (ha : PE X a (tM C ma)) (hb : PE X b (tM C mb)) : PT X (.Compare a [.Is] [b] pos) (tT C (mCmp gIsN ma mb)) := s_cmpT op_isN gIsN_ok ha hb (nomark _)
theorem t_notN (ha : PE X a (tM C ma)) (hb : PE X b (tM C mb)) : PT X (.Compare a [.IsNot] [b] pos) (tT C (mCmp gNotN ma mb)) := s_cmpT op_notN gNotN_ok ha hb (nomark _)
theorem t_in (ha : PE X a (tM C ma)) (hb : PE X b (tM C mb)) (hm : behindInMarks .In b = false) : PT X (.Compare a [.In] [b] pos) (tT C (mCmp (gIn false) ma mb)) := s_cmpT op_in_seq gIn_ok ha hb hm
theorem v_eq (B : Bd k X C) (ha : PE X a (tM C ma)) (hb : PE X b (tM C mb)) : PE X (.Compare a [.Eq] [b] pos) (tM C (bV (mCmp gEq ma mb))) := s_cmp (op_eqD B.rm.hu) gEq_ok ha hb (nomark _)
theorem v_ge (ha : PE X a (tM C ma)) (hb : PE X b (tM C mb)) : PE X (.Compare a [.GtE] [b] pos) (tM C (bV (mCmp (gI fun i j => decide (j ≤ i)) ma mb))) := s_cmp op_ge gI_ok ha hb (nomark _)
theorem v_notN (ha : PE X a (tM C ma)) (hb : PE X b (tM C mb)) : PE X (.Compare a [.IsNot] [b] pos) (tM C (bV (mCmp gNotN ma mb))) := s_cmp op_notN gNotN_ok ha hb (nomark _)
/-! ### built-in functions -/
abbrev NA (X : Cx) (es : List Expr) (pos : Pos) : Prop := (backTo pos (starEach es X.env)).any (·.1) = false
theorem k_len (B : Bd k X C) (hg : Gl X "len") (hm : X.mg "len" = none) (ha : PA X [a] (tAs C mas)) (he : starEach [a] X.env = (false, eval a X.env) :: starEach [] X.env := by rfl) (hpl : NA X [] pos := by rfl) : PE X (.Call (.Name "len" p) [a] [] pos) (tM C (mCal gLen mas)) :=
  s_callB call_len (gLen_ok B.hK) hg hm boot_len ha (by decide) (by decide) he hpl
theorem k_abs (hg : Gl X "abs") (hm : X.mg "abs" = none) (ha : PA X [a] (tAs C mas)) (he : starEach [a] X.env = (false, eval a X.env) :: starEach [] X.env := by rfl) (hpl : NA X [] pos := by rfl) : PE X (.Call (.Name "abs" p) [a] [] pos) (tM C (mCal (g1 fAbs) mas)) :=
  s_callB (c_abs (X := X) (C := C)).1 (c_abs (X := X) (C := C)).2 hg hm (by decide +kernel) ha (by decide) (by decide) he hpl
theorem k_max (B : Bd k X C) (hg : Gl X "max") (hm : X.mg "max" = none) (ha : PA X [a, b] (tAs C mas)) (he : starEach [a, b] X.env = (false, eval a X.env) :: starEach [b] X.env := by rfl) (hpl : NA X [b] pos := by rfl) : PE X (.Call (.Name "max" p) [a, b] [] pos) (tM C (mCal (gII fun i j => if j > i then j else i) mas)) :=
  s_callB (call_max2 B.cm) (gII_ok fun i j H Q q => ⟨i, j, rfl, q⟩) hg hm (by decide +kernel) ha (by decide) (by decide) he hpl
theorem k_min (B : Bd k X C) (hg : Gl X "min") (hm : X.mg "min" = none) (ha : PA X [a, b] (tAs C mas)) (he : starEach [a, b] X.env = (false, eval a X.env) :: starEach [b] X.env := by rfl) (hpl : NA X [b] pos := by rfl) : PE X (.Call (.Name "min" p) [a, b] [] pos) (tM C (mCal (gII fun i j => if j < i then j else i) mas)) :=
  s_callB (call_min2 B.cm) (gII_ok fun i j H Q q => ⟨i, j, rfl, q⟩) hg hm (by decide +kernel) ha (by decide) (by decide) he hpl
theorem k_sum (B : Bd k X C) (hg : Gl X "sum") (hm : X.mg "sum" = none) (ha : PA X [a] (tAs C mas)) (he : starEach [a] X.env = (false, eval a X.env) :: starEach [] X.env := by rfl) (hpl : NA X [] pos := by rfl) : PE X (.Call (.Name "sum" p) [a] [] pos) (tM C (mCal (g1 fSum) mas)) :=
  s_callB (cr_sum B.cm) fSum_ok hg hm (by decide +kernel) ha (by decide) (by decide) he hpl
theorem k_sorted (B : Bd k X C) (hg : Gl X "sorted") (hm : X.mg "sorted" = none) (ha : PA X [a] (tAs C mas)) (he : starEach [a] X.env = (false, eval a X.env) :: starEach [] X.env := by rfl) (hpl : NA X [] pos := by rfl) : PE X (.Call (.Name "sorted" p) [a] [] pos) (tM C (mCal (g1 fSorted) mas)) :=
  s_callB (cr_srt B.rm.hu) fSorted_ok hg hm (by decide +kernel) ha (by decide) (by decide) he hpl
theorem k_repr (B : Bd k X C) (hS : SysK X.K) (hg : Gl X "repr") (hm : X.mg "repr" = none) (ha : PA X [a] (tAs C mas)) (he : starEach [a] X.env = (false, eval a X.env) :: starEach [] X.env := by rfl) (hpl : NA X [] pos := by rfl) : PE X (.Call (.Name "repr" p) [a] [] pos) (tM C (mCal (g1 fRepr) mas)) :=
  s_callB (cr_repr hS B.rm.hu B.rm.gd) fRepr_ok hg hm (by decide +kernel) ha (by decide) (by decide) he hpl
theorem k_int (hg : Gl X "int") (hm : X.mg "int" = none) (ha : PA X [a] (tAs C mas)) (he : starEach [a] X.env = (false, eval a X.env) :: starEach [] X.env := by rfl) (hpl : NA X [] pos := by rfl) : PE X (.Call (.Name "int" p) [a] [] pos) (tM C (mCal (g1 fInt) mas)) :=
  s_callTy call_int1 fInt_ok hg hm (by decide +kernel) ha (by decide) (by decide) he hpl
theorem k_tuple (hg : Gl X "tuple") (hm : X.mg "tuple" = none) (ha : PA X [a] (tAs C mas)) (he : starEach [a] X.env = (false, eval a X.env) :: starEach [] X.env := by rfl) (hpl : NA X [] pos := by rfl) : PE X (.Call (.Name "tuple" p) [a] [] pos) (tM C (mCal (g1 fTuple) mas)) :=
  s_callTy call_tuple_of fTuple_ok hg hm (by decide +kernel) ha (by decide) (by decide) he hpl
/-! ### methods of lists -/
theorem y_app {o : Expr} {cpos : Pos} (ho : PE X o (tM C ma)) (he : PE X e (tM C mb)) (hbase : attributeBase o "append" X.env (eval o X.env) = eval o X.env := by rfl)
    (hfew : ((backTo cpos (starEach [e] X.env)).all (fun x => !x.1) && (backToKw cpos (keywordEach [] X.env)).all (fun x => x.1.isSome) && decide ([e].length + ([] : List Keyword).length + (if ([] : List Keyword).isEmpty then 0 else 1) < 30)) = true := by rfl)
    (hline : (apos.endLine == cpos.line) = true := by rfl) (hs : starEach [e] X.env = (false, eval e X.env) :: starEach [] X.env := by rfl) (hpl : NA X [] cpos := by rfl) : PE X (.Call (.Attribute o "append" apos) [e] [] cpos) (tM C (mApp ma mb)) :=
  s_app (pe_bm PySem.F.plainAttrs_list PySem.F.slot_list_append PySem.F.type_list_append mt_append (pv_frz ho) (pa_cons (pv_frz he) pa_nil hs) hbase hfew hline hs hpl)
theorem y_ext {o : Expr} {cpos : Pos} (ho : PE X o (tM C ma)) (he : PE X e (tM C mb)) (hbase : attributeBase o "extend" X.env (eval o X.env) = eval o X.env := by rfl)
    (hfew : ((backTo cpos (starEach [e] X.env)).all (fun x => !x.1) && (backToKw cpos (keywordEach [] X.env)).all (fun x => x.1.isSome) && decide ([e].length + ([] : List Keyword).length + (if ([] : List Keyword).isEmpty then 0 else 1) < 30)) = true := by rfl)
    (hline : (apos.endLine == cpos.line) = true := by rfl) (hs : starEach [e] X.env = (false, eval e X.env) :: starEach [] X.env := by rfl) (hpl : NA X [] cpos := by rfl) : PE X (.Call (.Attribute o "extend" apos) [e] [] cpos) (tM C (mExt ma mb)) :=
  s_ext (pe_bm PySem.F.plainAttrs_list PySem.F.slot_list_extend PySem.F.type_list_extend mt_extend (pv_frz ho) (pa_cons (pv_frz he) pa_nil hs) hbase hfew hline hs hpl)
end
/-! ### defs by the head's facts -/
def Df (K : PySem.W.Frag) (mg : Str → Option Value) (x : Str) (st : Stmt) : Prop := ∃ f fd, FunD K x x (defArgs st) (defBody st) (defScope st) [] [] f fd ∧ mg x = some (.ref f)
section
variable {P : Program} {w : World} {K : PySem.W.Frag} {mg : Str → Option Value} {base : Heap} {k : Nat} {x : Str} {N ps : List Str} {sb : Sv} {st : Stmt}
theorem fn_def {f : Addr} {fd : FuncData} (F : FunD K x x (defArgs st) (defBody st) (defScope st) [] [] f fd) (S : FnScope N ps (defScope st))
    (body : ∀ (cdv : Value) (f : Addr) (A : Around) (outer : List Env) (s : Shared) (H : Hp) (E : XK), Bd k (cxOf (L2.CX P w) P w K mg base N x (defScope st) f cdv A outer s H E) (Cn.ofE ⟨K, w⟩ mg E) →
      PSs (cxOf (L2.CX P w) P w K mg base N x (defScope st) f cdv A outer s H E) (defBody st) (tS (Cn.ofE ⟨K, w⟩ mg E) sb)) : FnC P w K mg base (k + 1) f fd ps (bodyF N.length ps.length sb) := by
  obtain ⟨oc, od, dV, kV, doc, pm, an, cdv, ct, osl, rfl, lk, hcd, hD, hK⟩ := F.ex
  rcases hD with ⟨_, rfl⟩ | ⟨e, _⟩
  · exact fn_of (st := st) ⟨⟨oc, od, kV, doc, pm, an, cdv, ct, osl, rfl, lk, hcd⟩, F.kp⟩ S fun cdv A outer s H E B => body cdv f A outer s H E B
  · exact absurd rfl e
theorem kn_def (D : Df K mg x st) (S : FnScope N ps (defScope st))
    (hb : ∀ (kV doc pm : Value) (an : Option Addr) (cdv ct : Value) (us : List Value), us.length = ps.length → bindArgs (PySem.W.fnOf x x (defArgs st) (defBody st) (defScope st) .none kV doc pm an cdv ct) ⟨us, []⟩ = pure (ps.zip us))
    (body : ∀ (cdv : Value) (f : Addr) (A : Around) (outer : List Env) (s : Shared) (H : Hp) (E : XK), Bd k (cxOf (L2.CX P w) P w K mg base N x (defScope st) f cdv A outer s H E) (Cn.ofE ⟨K, w⟩ mg E) →
      PSs (cxOf (L2.CX P w) P w K mg base N x (defScope st) f cdv A outer s H E) (defBody st) (tS (Cn.ofE ⟨K, w⟩ mg E) sb)) : Kn P w K mg base x (k + 1) (bodyF N.length ps.length sb) := by
  obtain ⟨f, fd, F, hm⟩ := D
  exact ⟨f, fd, ps, hm, F.kp, F.bindsN hb, fn_def F S body⟩
end
section
open PySem.W PyProof.Rows
theorem law_walkE {l : OpenLaw} {n k : Nat} {q : Program} {loose : List Str} {XP : (Str → Option Value) → Heap → Prop} {YP : World → Heap → Prop} {d : DefRec} {x : Str} {sem : Fs}
    (hn : l.most = some n) (hn2 : n ≤ sizeLine) (hdf : d.params.defaults = []) (hr : Rm k callerA)
    (F : ∀ (w : World) (mg : Str → Option Value) (fa : Addr) (h : Heap), YP w h → h.Ns mainGlobals mg → mg d.name = some (.ref fa) →
      ∃ (K : Frag) (fd : FuncData), K.In h ∧ (∀ (s : Shared) (u : Value), BindsTo s fd ⟨[u], []⟩ [(x, u)]) ∧ ∀ base : Heap, K.In base → base.Ns mainGlobals mg → FnC l.prog w K mg base k fa fd [x] sem)
    (hsem : ∀ ns : List Int, ns.length ≤ n → ∃ st, sem [.s ns] [heapC []] = .ok (.d (.bool true)) st) : WalkO q loose XP YP l.row.toRowW d [] (fun f vs => PySem.call f vs) := by
  refine Att.attach_call hn hdf fun w s₀ s₁ mg mb fa o pm cd doc a vs ns G Y ho hd hcd hmg hobj hints hlen hg => ?_
  obtain ⟨K, fd, KX, hb, hF⟩ := F w mg fa _ Y G.T.g hmg
  exact law_any KX G.T.g G.T.b G.T.builtins G.T.nolimit hg hobj hints (Nat.le_trans hlen hn2) hr hF hb (hsem ns hlen)
end
end Cp
/-! Cq: texts times ints, join, enumerate over lists and tuples. -/
namespace Cp
open PySem L2 PySem.Spec
section
variable {X : Cx} {C : Cn} {k j : Nat} {x : Str} {p pos apos cpos : Pos} {e a b c : Expr} {es : List Expr} {m ma mb mc : Ev} {mas : En → Sto → Res (List Vl)} {Q : VK} {μ : Mu} {F H : Hp} {st : Sto}
/-! ### a text times an int -/
def rMulS : R2 := fun x y H Q => ∃ i k, x = .str i ∧ y = .int k ∧ -(2 ^ 63) ≤ k ∧ k < 2 ^ 63 ∧ i.length * k.toNat ≤ sizeLine ∧ Q (.str (Txt.mul i k)) H
theorem mulOk_of {i : Str} {k : Int} (h1 : -(2 ^ 63) ≤ k) (h2 : k < 2 ^ 63) (hz : i.length * k.toNat ≤ sizeLine) : MulOk i k := by
  have hs : sizeLine = 16777216 := rfl
  refine ⟨?_, fun h3 _ => ?_, fun _ _ => ?_⟩
  · rw [Bool.or_eq_false_iff]; exact ⟨decide_eq_false (by omega), decide_eq_false (by omega)⟩
  · have hk : (k.toNat : Int) = k := Int.toNat_of_nonneg (by omega)
    have h4 : (i.length : Int) * k ≤ 16777216 := by
      rw [hs] at hz
      have h5 : ((i.length * k.toNat : Nat) : Int) ≤ ((16777216 : Nat) : Int) := Int.ofNat_le.mpr hz
      rw [Int.natCast_mul, hk] at h5
      exact h5
    have := Int.le_ediv_of_mul_le (a := (i.length : Int)) (b := 2 ^ 63 - 1) (c := k) (by omega) (by omega)
    omega
  · unfold Builtin.Str.tooLong
    exact decide_eq_false (by omega)
theorem op_mulS : OpR X (binaryOp .Mult) rMulS := by
  intro pins s σ H x y v u Q I rx ry h
  obtain ⟨i, k, rfl, rfl, h1, h2, hz, q⟩ := h
  obtain ⟨t, rfl⟩ := rx
  obtain ⟨t', rfl⟩ := ry
  exact SB.mul (mulOk_of h1 h2 hz) fun t'' tk => ⟨.str (Txt.mul i k), H, I.tok _, ⟨_, rfl⟩, q⟩
def fMulS : PyData → PyData → Option Rv
  | .str i, .int k => if -(2 ^ 63) ≤ k ∧ k < 2 ^ 63 ∧ i.length * k.toNat ≤ sizeLine then some (.d (.str (Txt.mul i k))) else none
  | _, _ => none
theorem fMulS_ok : BinOk C rMulS fMulS := by
  intro a b res v u μ F H st Q s va vb e h
  unfold fMulS at e
  split at e
  · split at e
    · rename_i hh
      cases e
      exact ⟨_, _, va.str, vb.int, hh.1, hh.2.1, hh.2.2, fin_d s h (.str _)⟩
    · cases e
  · cases e
def fMulA (a b : PyData) : Option Rv := match fMul a b with
  | some z => some z
  | none => fMulS a b
theorem s_mulA (ha : PE X a (tM C ma)) (hb : PE X b (tM C mb)) : PE X (.BinOp a .Mult b pos) (tM C (mBin fMulA ma mb)) := s_bin ((op_mulW.or (op_rep.or (op_repT.or op_repT2))).or op_mulS) (fMul_ok.or fMulS_ok) ha hb
/-! ### join -/
def strsD : List PyData → Option (List Str)
  | [] => some []
  | .str x :: r => match strsD r with
    | some xs => some (x :: xs)
    | none => none
  | _ :: _ => none
def fJoin (a b : PyData) : Option Rv := match a, itemsD b with
  | .str z, some ds => match strsD ds with
    | some ys => if (ys.map (·.length)).sum + ys.length * z.length ≤ 16777216 then some (.d (.str (Txt.join z ys))) else none
    | none => none
  | _, _ => none
def mJoin (ma mb : Ev) : Ev := fun ρ st => (mV ma ρ st).bind fun x s1 => match x with
  | .d (.str z) => (mV mb ρ s1).bind fun y s2 => view2 fJoin s2 x y
  | _ => .no
end
/-! ### enumerate of a tuple -/
section
variable {X : Cx} {C : Cn} {p pos tpos : Pos} {e a b : Expr} {μ : Mu} {F H : Hp} {st : Sto} {mas : En → Sto → Res (List Vl)} {elts : List Expr} {kk : Nat}
def enumF : Nat → List PyData → List PyData
  | _, [] => []
  | i, d :: r => .tuple [.int (i : Nat), d] :: enumF (i + 1) r
/-- the source of enumerate -/
def srcEn (s : Sto) (xs : List Vl) : Option Src := match xs with
  | [.c k] => match s[k]? with
    | some (.l xs) => some (enumF 0 xs, some (k, xs))
    | _ => none
  | [.d (.list xs)] => some (enumF 0 xs, none)
  | [.d (.tuple xs)] => some (enumF 0 xs, none)
  | _ => none
def iEn (ma : En → Sto → Res (List Vl)) : En → Sto → Res Src := fun ρ st => (ma ρ st).bind fun xs s => okO (srcEn s xs) s
theorem SR.tupled {K : Kw} (r1 : SR K μ F H st) {T : Addr} {x y : V} {d d' : PyData} (hT : H T = none) (h : Dq K F x d) (h' : Dq K F y d') :
    ∃ F2, Ext μ F H μ F2 (upd H T (.tup [x, y])) ∧ SR K μ F2 (upd H T (.tup [x, y])) st ∧ Dq K F2 (.ref T) (.tuple [d, d']) := by
  obtain ⟨s1, x1⟩ := r1.newly (o := .tup [x, y]) hT
  have hd := r1.dead hT
  obtain ⟨s2, x2, sm⟩ := s1.freeze x1 r1.sub hT upd_same hd.1 hd.2
  exact ⟨_, x2, s2, .tup (.inl upd_same) (.cons (h.same sm) (.cons (h'.same sm) .nil))⟩
end
end Cp
/-! Cr: constants of the module; sorted(set(ints)). -/
namespace Cp
open PySem L2 PySem.Spec
section
variable {X : Cx} {C : Cn} {x : Str} {pos : Pos}
theorem s_gs {z : Str} (hg : Gl X x) (h : ∃ t, X.mg x = some (.str z t)) (hd : (x == ("__debug__" : Str)) = false := by decide) : PE X (.Name x pos) (tM C (mK (.str z))) :=
  let ⟨t, h⟩ := h
  s_const (pe_glob (v := .str z) hg h ⟨t, rfl⟩ hd) fun _ => .str z
theorem s_gi {i : Int} (hg : Gl X x) (h : ∃ t, X.mg x = some (.int i t)) (hd : (x == ("__debug__" : Str)) = false := by decide) : PE X (.Name x pos) (tM C (mK (.int i))) :=
  let ⟨t, h⟩ := h
  s_const (pe_glob (v := .int i) hg h ⟨t, rfl⟩ hd) fun _ => .int i
end
end Cp
/-! Cm: what a meaning comes to, rule by rule (weakest preconditions), for the plain laws. -/
namespace Cp
open PySem L2
def WVe {α : Type} (E : Er → Sto → Prop) (r : Res α) (P : α → Sto → Prop) : Prop := match r with
  | .ok a s => P a s
  | .er e s => E e s
  | .no => False
def WO {α : Type} (o : Option α) (P : α → Prop) : Prop := match o with
  | some a => P a
  | none => False
def WSe (E : Er → Sto → Prop) (r : RS) (N B C : En → Sto → Prop) (R : Rv → Sto → Prop) : Prop := match r with
  | .nx ρ s => N ρ s
  | .bk ρ s => B ρ s
  | .ct ρ s => C ρ s
  | .rt r s => R r s
  | .er e s => E e s
  | .no => False
abbrev noE : Er → Sto → Prop := fun _ _ => False
/-- no error comes -/
@[simp] theorem noE_take (n : Nat) : (fun (e : Er) (s2 : Sto) => noE e (s2.take n)) = noE := rfl
section
variable {E : Er → Sto → Prop} {α β : Type} {P : α → Sto → Prop} {st : Sto} {ρ : En} {N B C : En → Sto → Prop} {R : Rv → Sto → Prop}
@[simp] theorem WO_some (a : α) (P : α → Prop) : WO (some a) P = P a := rfl
@[simp] theorem WO_none (P : α → Prop) : WO none P = False := rfl
@[simp] theorem WO_ite (c : Prop) [Decidable c] (a : α) (P : α → Prop) : WO (if c then some a else none) P = (c ∧ P a) := by by_cases h : c <;> simp [h]
@[simp] theorem WO_map (f : α → β) (o : Option α) (P : β → Prop) : WO (o.map f) P = WO o fun a => P (f a) := by cases o <;> rfl
@[simp] theorem WV_ok (a : α) : WVe E (.ok a st) P = P a st := rfl
@[simp] theorem WV_no : WVe E (.no : Res α) P = False := rfl
@[simp] theorem WV_bind (r : Res α) (f : α → Sto → Res β) (P : β → Sto → Prop) : WVe E (r.bind f) P = WVe E r fun a s => WVe E (f a s) P := by cases r <;> rfl
theorem WV_mono {r : Res α} {P Q : α → Sto → Prop} (h : WVe E r P) (w : ∀ a s, P a s → Q a s) : WVe E r Q := by cases r with
  | ok a s => exact w a s h
  | er e s => exact h
  | no => exact h
theorem WV_ex {r : Res α} (h : WVe noE r P) : ∃ a s, r = .ok a s ∧ P a s := by cases r with
  | ok a s => exact ⟨a, s, rfl, h⟩
  | er e s => exact False.elim h
  | no => exact False.elim h
@[simp] theorem WV_okO (o : Option α) : WVe E (okO o st) P = WO o fun a => P a st := by cases o <;> rfl
@[simp] theorem WV_okB (o : Option Bool) (P : Bool → Sto → Prop) : WVe E (okB o st) P = WO o fun a => P a st := by cases o <;> rfl
@[simp] theorem WS_toS (r : Res α) (k : α → Sto → RS) : WSe E (r.toS k) N B C R = WVe E r fun a s => WSe E (k a s) N B C R := by cases r <;> rfl
@[simp] theorem WS_nx (s : Sto) : WSe E (.nx ρ s) N B C R = N ρ s := rfl
@[simp] theorem WS_rt (r : Rv) (s : Sto) : WSe E (.rt r s) N B C R = R r s := rfl
@[simp] theorem WS_bk (s : Sto) : WSe E (.bk ρ s) N B C R = B ρ s := rfl
@[simp] theorem WS_ct (s : Sto) : WSe E (.ct ρ s) N B C R = C ρ s := rfl
@[simp] theorem WS_no : WSe E .no N B C R = False := rfl
/-! ### expressions -/
variable {m ma mb : Ev} {mas : En → Sto → Res (List Vl)} {PE : Rv → Sto → Prop} {PV : Vl → Sto → Prop} {PB : Bool → Sto → Prop} {PA : List Vl → Sto → Prop} {ca cb : En → Sto → Res Bool}
@[simp] theorem W_mV : WVe E (mV m ρ st) PV = WVe E (m ρ st) fun r s => PV (frz r) s := by unfold mV; rw [WV_bind]; rfl
/-- a value that nobody writes again -/
def given (r : Rv) (s : Sto) (P : Vl → Sto → Prop) : Prop := match r with
  | .c k => (match s[k]? with
    | some (.l xs) => P (.d (.list xs)) (s.set k gone)
    | _ => False)
  | r => P (frz r) s
@[simp] theorem given_d (c : PyData) (s : Sto) (P : Vl → Sto → Prop) : given (.d c) s P = P (.d c) s := rfl
@[simp] theorem given_n (c : Cl) (s : Sto) (P : Vl → Sto → Prop) : given (.n c) s P = P (frz (.n c)) s := rfl
@[simp] theorem given_c (k : Nat) (s : Sto) (P : Vl → Sto → Prop) : given (.c k) s P = match s[k]? with
    | some (.l xs) => P (.d (.list xs)) (s.set k gone)
    | _ => False := rfl
@[simp] theorem W_mVz : WVe E (mVz m ρ st) PV = WVe E (m ρ st) fun r s => given r s PV := by
  unfold mVz; rw [WV_bind]
  congr 1; funext r s
  cases r with
  | c k =>
    show WVe E (match s[k]? with
      | some (.l xs) => .ok (.d (.list xs)) (s.set k gone)
      | _ => .no) PV = match s[k]? with
      | some (.l xs) => PV (.d (.list xs)) (s.set k gone)
      | _ => False
    cases s[k]? with
    | none => rfl
    | some c => cases c <;> rfl
  | _ => rfl
/-- a value that is kept: a new object becomes a cell -/
def kept (r : Rv) (s : Sto) (P : Vl → Sto → Prop) : Prop := match r with
  | .n c => P (.c s.length) (s ++ [c])
  | r => P (frz r) s
@[simp] theorem kept_n (c : Cl) (s : Sto) (P : Vl → Sto → Prop) : kept (.n c) s P = P (.c s.length) (s ++ [c]) := rfl
@[simp] theorem kept_d (c : PyData) (s : Sto) (P : Vl → Sto → Prop) : kept (.d c) s P = P (.d c) s := rfl
@[simp] theorem kept_c (c : Nat) (s : Sto) (P : Vl → Sto → Prop) : kept (.c c) s P = P (.c c) s := rfl
@[simp] theorem W_mVc : WVe E (mVc m ρ st) PV = WVe E (m ρ st) fun r s => kept r s PV := by
  unfold mVc; rw [WV_bind]
  congr 1; funext r s
  cases r <;> rfl
@[simp] theorem frz_d (x : PyData) : frz (.d x) = .d x := rfl
@[simp] theorem frz_c (x : Nat) : frz (.c x) = .c x := rfl
@[simp] theorem frz_s (x : List Int) : frz (.s x) = .s x := rfl
@[simp] theorem frz_o (x : Ob) : frz (.o x) = .o x := rfl
@[simp] theorem frz_l (x : List PyData) : frz (.n (.l x)) = .d (.list x) := rfl
@[simp] theorem of_d (x : PyData) : Rv.of (.d x) = .d x := rfl
@[simp] theorem of_c (x : Nat) : Rv.of (.c x) = .c x := rfl
@[simp] theorem of_s (x : List Int) : Rv.of (.s x) = .s x := rfl
@[simp] theorem of_o (x : Ob) : Rv.of (.o x) = .o x := rfl
@[simp] theorem frz_of (x : Vl) : frz (Rv.of x) = x := by cases x <;> rfl
@[simp] theorem kept_of (x : Vl) (s : Sto) (P : Vl → Sto → Prop) : kept (Rv.of x) s P = P x s := by cases x <;> rfl
@[simp] theorem view_d (x : PyData) : view st (.d x) = some x := rfl
@[simp] theorem view_c (i : Nat) : view st (.c i) = match st[i]? with
  | some (.l xs) => some (.list xs)
  | some (.m kvs) => if isGone (.m kvs) then none else some (.dict kvs)
  | none => none := rfl
@[simp] theorem W_mK (x : PyData) : WVe E (mK x ρ st) PE = PE (.d x) st := rfl
@[simp] theorem W_mN (i : Nat) : WVe E (mN i ρ st) PE = WO (ρ[i]?) fun o => WO o fun x => PE (Rv.of x) st := by
  unfold mN
  cases h : ρ[i]? with
  | none => rfl
  | some o => cases o <;> rfl
@[simp] theorem W_mBin (f : PyData → PyData → Option Rv) : WVe E (mBin f ma mb ρ st) PE = WVe E (ma ρ st) fun r1 s1 => WVe E (mb ρ s1) fun r2 s2 => WO (view s2 (frz r1)) fun x => WO (view s2 (frz r2)) fun y => WO (f x y) fun r => PE r s2 := by
  unfold mBin; rw [WV_bind, W_mV]
  congr 1; funext r1 s1; rw [WV_bind, W_mV]
  congr 1; funext r2 s2
  unfold view2
  cases view s2 (frz r1) with
  | none => rfl
  | some x => cases view s2 (frz r2) with
    | none => rfl
    | some y => simp only [WO_some]; cases f x y <;> rfl
@[simp] theorem W_mSix : WVe E (mSix ma mb ρ st) PE = WVe E (ma ρ st) fun r1 s1 => WVe E (mb ρ s1) fun r2 s2 => match frz r1, frz r2 with
    | .s ns, .d (.int i) => WO (atI ns i) fun k => PE (.d (.int k)) s2
    | _, _ => False := by
  unfold mSix; rw [WV_bind, W_mV]
  congr 1; funext r1 s1; rw [WV_bind, W_mV]
  congr 1; funext r2 s2
  generalize frz r1 = v1
  generalize frz r2 = v2
  cases v1 with
  | s ns =>
    cases v2 with
    | d y =>
      cases y with
      | int i => dsimp only; cases atI ns i <;> rfl
      | _ => rfl
    | _ => rfl
  | _ => rfl
@[simp] theorem W_mCmp (g : PyData → PyData → Option Bool) : WVe E (mCmp g ma mb ρ st) PB = WVe E (ma ρ st) fun r1 s1 => WVe E (mb ρ s1) fun r2 s2 => WO (cmp2 g s2 (frz r1) (frz r2)) fun k => PB k s2 := by
  unfold mCmp; rw [WV_bind, W_mV]
  congr 1; funext r1 s1; rw [WV_bind, W_mV]
  congr 1; funext r2 s2; rw [WV_okB]
@[simp] theorem W_bV : WVe E (bV ca ρ st) PE = WVe E (ca ρ st) fun k s => PE (.d (.bool k)) s := by unfold bV; rw [WV_bind]; rfl
@[simp] theorem W_mCal (g : Sto → List Vl → Option Rv) : WVe E (mCal g mas ρ st) PE = WVe E (mas ρ st) fun xs s => WO (g s xs) fun r => PE r s := by
  unfold mCal; rw [WV_bind]
  congr 1; funext xs s
  cases g s xs <;> rfl
@[simp] theorem W_aNil : WVe E (aNil ρ st) PA = PA [] st := rfl
@[simp] theorem W_aCons {mv : En → Sto → Res Vl} {mr : En → Sto → Res (List Vl)} : WVe E (aCons mv mr ρ st) PA = WVe E (mv ρ st) fun x s1 => WVe E (mr ρ s1) fun xs s2 => PA (x :: xs) s2 := by
  unfold aCons; rw [WV_bind]
  congr 1; funext x s1; rw [WV_bind]; rfl
@[simp] theorem W_mTup : WVe E (mTup mas ρ st) PE = WVe E (mas ρ st) fun xs s => WO (allD xs) fun ds => ds.length ≤ sizeLine ∧ PE (.d (.tuple ds)) s := by
  unfold mTup; rw [WV_bind]
  congr 1; funext xs s
  cases h : allD xs with
  | none => rfl
  | some ds =>
    simp only [WO_some]
    by_cases hl : ds.length ≤ sizeLine
    · simp [hl]
    · simp [hl]
@[simp] theorem W_mLst : WVe E (mLst mas ρ st) PE = WVe E (mas ρ st) fun xs s => WO (allD xs) fun ds => ds.length ≤ sizeLine ∧ PE (.n (.l ds)) s := by
  unfold mLst; rw [WV_bind]
  congr 1; funext xs s
  cases h : allD xs with
  | none => rfl
  | some ds =>
    simp only [WO_some]
    by_cases hl : ds.length ≤ sizeLine
    · simp [hl]
    · simp [hl]
@[simp] theorem allD_nil : allD [] = some [] := rfl
@[simp] theorem allD_cons (x : PyData) (r : List Vl) : allD (.d x :: r) = (allD r).map (x :: ·) := by
  show (match allD r with | some xs => some (x :: xs) | none => none) = _
  cases allD r <;> rfl
@[simp] theorem W_eIf : WVe E (eIf ca ma mb ρ st) PE = WVe E (ca ρ st) fun k s => if k = true then WVe E (ma ρ s) PE else WVe E (mb ρ s) PE := by
  unfold eIf; rw [WV_bind]
  congr 1; funext k s
  cases k <;> simp
@[simp] theorem W_mNeg : WVe E (mNeg m ρ st) PE = WVe E (m ρ st) fun r s => WO ((view s (frz r)).bind fNeg) fun d => PE (.d d) s := by
  unfold mNeg; rw [WV_bind, W_mV]
  congr 1; funext r s
  cases (view s (frz r)).bind fNeg <;> rfl
@[simp] theorem W_mTru : WVe E (mTru m ρ st) PB = WVe E (m ρ st) fun r s => WO ((view s (frz r)).bind truD) fun k => PB k s := by
  unfold mTru; rw [WV_bind, W_mV]
  congr 1; funext r s; rw [WV_okB]
@[simp] theorem W_bNot : WVe E (bNot ca ρ st) PB = WVe E (ca ρ st) fun k s => PB (!k) s := by unfold bNot; rw [WV_bind]; rfl
@[simp] theorem W_bAnd : WVe E (bAnd ca cb ρ st) PB = WVe E (ca ρ st) fun k s => if k = true then WVe E (cb ρ s) PB else PB false s := by
  unfold bAnd; rw [WV_bind]
  congr 1; funext k s
  cases k <;> simp
@[simp] theorem W_bOr : WVe E (bOr ca cb ρ st) PB = WVe E (ca ρ st) fun k s => if k = true then PB true s else WVe E (cb ρ s) PB := by
  unfold bOr; rw [WV_bind]
  congr 1; funext k s
  cases k <;> simp
@[simp] theorem W_eNot : WVe E (eNot ma ρ st) PE = WVe E (ma ρ st) fun r s => match frz r with
    | .d (.bool k) => PE (.d (.bool !k)) s
    | _ => False := by
  unfold eNot; rw [WV_bind, W_mV]
  congr 1; funext r s
  split <;> simp_all
@[simp] theorem W_eAnd : WVe E (eAnd ma mb ρ st) PE = WVe E (ma ρ st) fun r s => match frz r with
    | .d (.bool true) => WVe E (mb ρ s) PE
    | .d (.bool false) => PE (.d (.bool false)) s
    | _ => False := by
  unfold eAnd; rw [WV_bind, W_mV]
  congr 1; funext r s
  split <;> simp_all
@[simp] theorem W_eOr : WVe E (eOr ma mb ρ st) PE = WVe E (ma ρ st) fun r s => match frz r with
    | .d (.bool true) => PE (.d (.bool true)) s
    | .d (.bool false) => WVe E (mb ρ s) PE
    | _ => False := by
  unfold eOr; rw [WV_bind, W_mV]
  congr 1; funext r s
  split <;> simp_all
@[simp] theorem W_mJoin : WVe E (mJoin ma mb ρ st) PE = WVe E (ma ρ st) fun r1 s1 => match frz r1 with
    | .d (.str z) => WVe E (mb ρ s1) fun r2 s2 => WO (view s2 (frz r2)) fun y => WO (fJoin (.str z) y) fun r => PE r s2
    | _ => False := by
  unfold mJoin; rw [WV_bind, W_mV]
  congr 1; funext r1 s1
  generalize frz r1 = v1
  cases v1 with
  | d y =>
    cases y with
    | str z =>
      dsimp only
      rw [WV_bind, W_mV]
      congr 1; funext r2 s2
      unfold view2
      simp only [view_d]
      cases view s2 (frz r2) with
      | none => rfl
      | some y => simp only [WO_some]; cases fJoin (.str _) y <;> rfl
    | _ => rfl
  | _ => rfl
/-- after a call: the callee's cells are forgotten -/
def back (n : Nat) (r : Rv) (s : Sto) (P : Rv → Sto → Prop) : Prop := match r with
  | .c i => if i < n then P (.c i) (s.take n) else WO s[i]? fun c => isGone c = false ∧ P (.n c) (s.take n)
  | r => P r (s.take n)
@[simp] theorem back_d (n : Nat) (x : PyData) (s : Sto) (P : Rv → Sto → Prop) : back n (.d x) s P = P (.d x) (s.take n) := rfl
@[simp] theorem back_n (n : Nat) (x : Cl) (s : Sto) (P : Rv → Sto → Prop) : back n (.n x) s P = P (.n x) (s.take n) := rfl
@[simp] theorem back_c (n : Nat) (i : Nat) (s : Sto) (P : Rv → Sto → Prop) : back n (.c i) s P = if i < n then P (.c i) (s.take n) else WO s[i]? fun c => isGone c = false ∧ P (.n c) (s.take n) := rfl
@[simp] theorem gone_l (xs : List PyData) : isGone (.l xs) = false := rfl
@[simp] theorem W_mCall (sem : Fs) : WVe E (mCall sem mas ρ st) PE = WVe E (mas ρ st) fun xs s => WVe (fun e s2 => E e (s2.take st.length)) (sem xs s) fun r s' => back st.length r s' PE := by
  unfold mCall; rw [WV_bind]
  congr 1; funext xs s
  cases sem xs s with
  | no => rfl
  | er e s => rfl
  | ok r s =>
    cases r with
    | d x => rfl
    | s x => rfl
    | o x => rfl
    | n x => rfl
    | c i =>
      unfold gcR back
      by_cases h : i < st.length
      · simp [h]
      · cases q : s[i]? with
        | none => simp [h, q]
        | some c => cases z : isGone c <;> simp [h, q, z]
theorem W_body (n k : Nat) (b : Sv) (args : List Vl) : WVe E (bodyF n k b args st) PE = (args.length = k ∧ WSe E (b (args.map some ++ List.replicate (n - args.length) none) st) (fun _ s => PE (.d .none) s) (fun _ _ => False) (fun _ _ => False) PE) := by
  unfold bodyF
  by_cases h : args.length = k
  · simp only [h, if_true, true_and]
    cases b (args.map some ++ List.replicate (n - k) none) st <;> rfl
  · simp [h]
@[simp] theorem W_oNone {PO : Option Int → Sto → Prop} : WVe E (oNone ρ st) PO = PO none st := rfl
@[simp] theorem W_oSome {PO : Option Int → Sto → Prop} : WVe E (oSome m ρ st) PO = WVe E (m ρ st) fun r s => match frz r with
    | .d (.int i) => PO (some i) s
    | _ => False := by
  unfold oSome; rw [WV_bind, W_mV]
  congr 1; funext r s
  generalize frz r = v
  cases v with
  | d y => cases y <;> rfl
  | _ => rfl
@[simp] theorem W_mSl {ml mh : En → Sto → Res (Option Int)} : WVe E (mSl ma ml mh ρ st) PE = WVe E (ma ρ st) fun r s1 => WVe E (ml ρ s1) fun l s2 => WVe E (mh ρ s2) fun h s3 => WO (view s3 (frz r)) fun d => WO (fSl d l h) fun r => PE r s3 := by
  unfold mSl; rw [WV_bind, W_mV]
  congr 1; funext r s1; rw [WV_bind]
  congr 1; funext l s2; rw [WV_bind]
  congr 1; funext h s3
  cases view s3 (frz r) with
  | none => rfl
  | some d => simp only [WO_some]; cases fSl d l h <;> rfl
@[simp] theorem fSl_t (xs : List PyData) (l h : Option Int) : fSl (.tuple xs) l h = some (.d (.tuple (cutD xs l h))) := rfl
@[simp] theorem fSl_l (xs : List PyData) (l h : Option Int) : fSl (.list xs) l h = some (.n (.l (cutD xs l h))) := rfl
/-! ### statements -/
variable {sa sb : Sv}
@[simp] theorem W_sNil : WSe E (sNil ρ st) N B C R = N ρ st := rfl
@[simp] theorem W_sSeq : WSe E (sSeq sa sb ρ st) N B C R = WSe E (sa ρ st) (fun ρ' s => WSe E (sb ρ' s) N B C R) B C R := by
  unfold sSeq
  cases sa ρ st <;> rfl
@[simp] theorem W_sAsg (g : Gm) (mv : En → Sto → Res Vl) : WSe E (sAsg g mv ρ st) N B C R = WVe E (mv ρ st) fun x s => WVe E (g x ρ s) fun ρ' s' => N ρ' s' := by
  unfold sAsg; rw [WS_toS]
  congr 1; funext x s; rw [WS_toS]; rfl
@[simp] theorem W_sRet : WSe E (sRet m ρ st) N B C R = WVe E (m ρ st) R := by unfold sRet; rw [WS_toS]; rfl
@[simp] theorem W_sRetN : WSe E (sRetN ρ st) N B C R = R (.d .none) st := rfl
@[simp] theorem W_sExp : WSe E (sExp m ρ st) N B C R = WVe E (m ρ st) fun _ s => N ρ s := by unfold sExp; rw [WS_toS]; rfl
@[simp] theorem W_sIf : WSe E (sIf ca sa sb ρ st) N B C R = WVe E (ca ρ st) fun k s => if k = true then WSe E (sa ρ s) N B C R else WSe E (sb ρ s) N B C R := by
  unfold sIf; rw [WS_toS]
  congr 1; funext k s
  cases k <;> simp
variable {PR : En → Sto → Prop}
@[simp] theorem W_gNm (i : Nat) (x : Vl) : WVe E (gNm i x ρ st) PR = PR (ρ.set i (some x)) st := rfl
@[simp] theorem W_gTp (n : Nat) (r : Gms) (ds : List PyData) : WVe E (gTp n r (.d (.tuple ds)) ρ st) PR = (ds.length = n ∧ WVe E (r ds ρ st) PR) := by
  unfold gTp
  by_cases h : ds.length = n <;> simp [h]
@[simp] theorem W_gNil : WVe E (gNil9 [] ρ st) PR = PR ρ st := rfl
@[simp] theorem W_gCons (g : Gm) (r : Gms) (d : PyData) (ds : List PyData) : WVe E (gCons9 g r (d :: ds) ρ st) PR = WVe E (g (.d d) ρ st) fun ρ' s => WVe E (r ds ρ' s) PR := by
  show WVe E ((g (.d d) ρ st).bind fun ρ' s => r ds ρ' s) PR = _
  rw [WV_bind]
@[simp] theorem W_gPl (d : PyData) : WVe E (gPl ma mb (.d d) ρ st) PR = WVe E (ma ρ st) fun o s1 => WVe E (mb ρ s1) fun i s2 => match frz o, frz i with
    | .c k, .d (.int j) => (match s2[k]? with
      | some (.l xs) => WO (ixN xs.length j) fun n => PR ρ (s2.set k (.l (xs.set n d)))
      | _ => False)
    | _, _ => False := by
  show WVe E ((mV ma ρ st).bind fun o s1 => (mV mb ρ s1).bind fun i s2 => match o, i with
    | .c k, .d (.int j) => match s2[k]? with
      | some (.l xs) => match ixN xs.length j with
        | some n => .ok ρ (s2.set k (.l (xs.set n d)))
        | none => .no
      | _ => .no
    | _, _ => .no) PR = _
  rw [WV_bind, W_mV]
  congr 1; funext o s1; rw [WV_bind, W_mV]
  congr 1; funext i s2
  generalize frz o = v1
  generalize frz i = v2
  cases v1 with
  | c k =>
    cases v2 with
    | d y =>
      cases y with
      | int j =>
        dsimp only
        cases s2[k]? with
        | none => rfl
        | some c =>
          cases c with
          | m _ => rfl
          | l xs => dsimp only; cases ixN xs.length j <;> rfl
      | _ => rfl
    | _ => rfl
  | _ => rfl
@[simp] theorem W_sPar2 (i j : Nat) : WSe E (sPar [i, j] mas ρ st) N B C R = WVe E (mas ρ st) fun xs s => match xs with
    | [x, y] => N ((ρ.set i (some x)).set j (some y)) s
    | _ => False := by
  unfold sPar; rw [WS_toS]
  congr 1; funext xs s
  match xs with
  | [] => rfl
  | [_] => rfl
  | [_, _] => rfl
  | _ :: _ :: _ :: _ => rfl
@[simp] theorem W_sPar3 (i j l : Nat) : WSe E (sPar [i, j, l] mas ρ st) N B C R = WVe E (mas ρ st) fun xs s => match xs with
    | [x, y, z] => N (((ρ.set i (some x)).set j (some y)).set l (some z)) s
    | _ => False := by
  unfold sPar; rw [WS_toS]
  congr 1; funext xs s
  match xs with
  | [] => rfl
  | [_] => rfl
  | [_, _] => rfl
  | [_, _, _] => rfl
  | _ :: _ :: _ :: _ :: _ => rfl
@[simp] theorem W_mApp : WVe E (mApp ma mb ρ st) PE = WVe E (ma ρ st) fun o s1 => WO (lstAt s1 (frz o)) fun _ => WVe E (mb ρ s1) fun y s2 => match frz o, frz y with
    | .c k, .d d => WO (lstAt s2 (.c k)) fun xs => xs.length < sizeLine ∧ PE (.d .none) (s2.set k (.l (xs ++ [d])))
    | _, _ => False := by
  unfold mApp; rw [WV_bind, W_mV]
  congr 1; funext o s1
  cases h : lstAt s1 (frz o) with
  | none => rfl
  | some zs =>
    simp only [WO_some]
    rw [WV_bind, W_mV]
    congr 1; funext y s2
    cases q1 : frz o with
    | d x => rfl
    | s x => rfl
    | o x => rfl
    | c k =>
      cases q2 : frz y with
      | c x => cases lstAt s2 (.c k) <;> rfl
      | s x => cases lstAt s2 (.c k) <;> rfl
      | o x => cases lstAt s2 (.c k) <;> rfl
      | d d =>
        dsimp only
        cases lstAt s2 (.c k) with
        | none => rfl
        | some xs =>
          simp only [WO_some, fApp]
          by_cases hl : xs.length < sizeLine <;> simp [hl]
@[simp] theorem W_mExt : WVe E (mExt ma mb ρ st) PE = WVe E (ma ρ st) fun o s1 => WO (lstAt s1 (frz o)) fun _ => WVe E (mb ρ s1) fun y s2 => match frz o with
    | .c k => WO (lstAt s2 (.c k)) fun xs => WO (view s2 (frz y)) fun d => WO (fExt xs d) fun zs => PE (.d .none) (s2.set k (.l zs))
    | _ => False := by
  unfold mExt; rw [WV_bind, W_mV]
  congr 1; funext o s1
  cases h : lstAt s1 (frz o) with
  | none => rfl
  | some zs =>
    simp only [WO_some]
    rw [WV_bind, W_mV]
    congr 1; funext y s2
    cases q1 : frz o with
    | d x => rfl
    | s x => rfl
    | o x => rfl
    | c k =>
      dsimp only
      cases lstAt s2 (.c k) with
      | none => rfl
      | some xs =>
        simp only [WO_some]
        cases view s2 (frz y) with
        | none => rfl
        | some d => simp only [WO_some]; cases fExt xs d <;> rfl
@[simp] theorem lstAt_c (k : Nat) : lstAt st (.c k) = match st[k]? with
  | some (.l xs) => some xs
  | _ => none := rfl
/-! ### iterations -/
variable {PI : Src → Sto → Prop}
@[simp] theorem W_iOf : WVe E (iOf m ρ st) PI = WVe E (m ρ st) fun r s => WO (srcOf s (frz r)) fun dg => PI dg s := by
  unfold iOf; rw [WV_bind, W_mV]
  congr 1; funext r s; rw [WV_okO]
@[simp] theorem W_iEn : WVe E (iEn mas ρ st) PI = WVe E (mas ρ st) fun xs s => WO (srcEn s xs) fun dg => PI dg s := by
  unfold iEn; rw [WV_bind]
  congr 1; funext xs s; rw [WV_okO]
@[simp] theorem W_iRg1 : WVe E (iRg1 mas ρ st) PI = WVe E (mas ρ st) fun xs s => WO (oneI xs) fun j => rOk 0 j = true ∧ PI (rngD 0 j, none) s := by
  unfold iRg1; rw [WV_bind]
  congr 1; funext xs s
  cases oneI xs with
  | none => rfl
  | some j =>
    simp only [WO_some]
    by_cases hl : rOk 0 j = true <;> simp [hl]
@[simp] theorem W_iRg2 : WVe E (iRg2 mas ρ st) PI = WVe E (mas ρ st) fun xs s => WO (twoI xs) fun j => rOk j.1 j.2 = true ∧ PI (rngD j.1 j.2, none) s := by
  unfold iRg2; rw [WV_bind]
  congr 1; funext xs s
  cases twoI xs with
  | none => rfl
  | some j =>
    simp only [WO_some]
    by_cases hl : rOk j.1 j.2 = true <;> simp [hl]
/-- a loop, by what stands at each turn -/
theorem forGo_by {g : Gm} {b : Sv} {gd : Option (Nat × List PyData)} {all : List PyData} (I : Nat → En → Sto → Prop) (ds : List PyData) (j : Nat) (h0 : I j ρ st) (hg : ∀ i ρ s, I i ρ s → Grd gd all s)
    (hs : ∀ (i : Nat) (d : PyData) (ρ : En) (s : Sto), ds[i]? = some d → I (j + i) ρ s → WVe E (g (.d d) ρ s) fun ρ1 s1 => WSe E (b ρ1 s1) (I (j + i + 1)) N (I (j + i + 1)) R) (he : ∀ ρ s, I (j + ds.length) ρ s → N ρ s) :
    WSe E (forGo g b gd all ds ρ st) N B C R := by
  induction ds generalizing j ρ st with
  | nil =>
    unfold forGo
    rw [if_pos (hg _ _ _ h0)]
    exact he _ _ h0
  | cons d r ih =>
    unfold forGo
    rw [if_pos (hg _ _ _ h0), WS_toS]
    refine WV_mono (hs 0 d ρ st rfl h0) fun ρ1 s1 h1 => ?_
    have next : ∀ ρ2 s2, I (j + 1) ρ2 s2 → WSe E (forGo g b gd all r ρ2 s2) N B C R := fun ρ2 s2 h2 => ih (j + 1) h2 (fun i d ρ s e h => by
      have := hs (i + 1) d ρ s (by simpa using e) (by rw [show j + (i + 1) = j + 1 + i by omega]; exact h)
      rw [show j + (i + 1) + 1 = j + 1 + i + 1 by omega] at this
      exact this) fun ρ s h => he ρ s (by rw [List.length_cons, show j + (r.length + 1) = j + 1 + r.length by omega]; exact h)
    cases q : b ρ1 s1 with
    | nx ρ2 s2 => rw [q] at h1; exact next _ _ h1
    | ct ρ2 s2 => rw [q] at h1; exact next _ _ h1
    | bk ρ2 s2 => rw [q] at h1; exact h1
    | rt v s2 => rw [q] at h1; exact h1
    | er x s2 => rw [q] at h1; exact h1
    | no => rw [q] at h1; exact h1
@[simp] theorem W_sFor (mi : En → Sto → Res Src) (g : Gm) (b : Sv) : WSe E (sFor mi g b ρ st) N B C R = WVe E (mi ρ st) fun dg s => WSe E (forGo g b dg.2 dg.1 dg.1 ρ s) N B C R := by
  unfold sFor; rw [WS_toS]
theorem lcGo_by {g : Gm} {tt : En → Sto → Res Bool} {te : Ev} {gd : Option (Nat × List PyData)} {all : List PyData} {P : List PyData → Sto → Prop} (I : Nat → Sto → List PyData → Prop) (ds : List PyData) (j : Nat) (acc : List PyData) (h0 : I j st acc) (hg : ∀ i s a, I i s a → Grd gd all s)
    (hs : ∀ (i : Nat) (d : PyData) (s : Sto) (a : List PyData), ds[i]? = some d → I (j + i) s a → WVe noE (g (.d d) ρ s) fun ρ1 s1 => WVe noE (tt ρ1 s1) fun k s2 => if k = true then WVe noE (te ρ1 s2) fun r s3 => ∃ y, frz r = .d y ∧ a.length < sizeLine ∧ I (j + i + 1) s3 (a ++ [y]) else I (j + i + 1) s2 a)
    (he : ∀ s a, I (j + ds.length) s a → P a s) : WVe E (lcGo g tt te gd all ρ ds st acc) P := by
  induction ds generalizing j st acc with
  | nil =>
    unfold lcGo
    rw [if_pos (hg _ _ _ h0)]
    exact he _ _ h0
  | cons d r ih =>
    unfold lcGo
    rw [if_pos (hg _ _ _ h0)]
    have h1 := hs 0 d st acc rfl h0
    have next : ∀ s2 a2, I (j + 1) s2 a2 → WVe E (lcGo g tt te gd all ρ r s2 a2) P := fun s2 a2 h2 => ih (j + 1) a2 h2 (fun i d s a e h => by
      have := hs (i + 1) d s a (by simpa using e) (by rw [show j + (i + 1) = j + 1 + i by omega]; exact h)
      rw [show j + (i + 1) + 1 = j + 1 + i + 1 by omega] at this
      exact this) fun s a h => he s a (by rw [List.length_cons, show j + (r.length + 1) = j + 1 + r.length by omega]; exact h)
    cases q : g (.d d) ρ st with
    | ok ρ1 s1 =>
      rw [q, WV_ok] at h1
      simp only []
      cases q2 : tt ρ1 s1 with
      | ok k s2 =>
        rw [q2, WV_ok] at h1
        cases k with
        | false => simp only [Bool.false_eq_true, if_false] at h1; exact next _ _ h1
        | true =>
          simp only [if_true] at h1
          cases q3 : te ρ1 s2 with
          | ok rr s3 =>
            rw [q3, WV_ok] at h1
            obtain ⟨y, e1, e2, e3⟩ := h1
            have e4 : mV te ρ1 s2 = .ok (.d y) s3 := by unfold mV; rw [q3]; show Res.ok (frz rr) s3 = _; rw [e1]
            simp only [e4, if_pos e2]
            exact next _ _ e3
          | er x s2 => rw [q3] at h1; exact False.elim h1
          | no => rw [q3] at h1; exact False.elim h1
      | er x s2 => rw [q2] at h1; exact False.elim h1
      | no => rw [q2] at h1; exact False.elim h1
    | er x s2 => rw [q] at h1; exact False.elim h1
    | no => rw [q] at h1; exact False.elim h1
/-- a written list, item by item -/
theorem lcGo_c {g : Gm} {tt : En → Sto → Res Bool} {te : Ev} {all : List PyData} {P : List PyData → Sto → Prop} {d : PyData} {r acc : List PyData} :
    WVe E (lcGo g tt te none all ρ (d :: r) st acc) P = WVe noE (g (.d d) ρ st) fun ρ1 s1 => WVe noE (tt ρ1 s1) fun k s2 => if k = true then WVe noE (te ρ1 s2) fun r0 s3 => (match frz r0 with
      | .d y => acc.length < sizeLine ∧ WVe E (lcGo g tt te none all ρ r s3 (acc ++ [y])) P
      | _ => False) else WVe E (lcGo g tt te none all ρ r s2 acc) P := by
  rw [lcGo]
  rw [if_pos (show Grd none all st from trivial)]
  cases g (.d d) ρ st with
  | ok ρ1 s1 =>
    simp only [WV_ok]
    cases tt ρ1 s1 with
    | ok k s2 =>
      simp only [WV_ok]
      cases k with
      | false => rfl
      | true =>
        simp only [if_true]
        cases q : te ρ1 s2 with
        | ok rr s3 =>
          have e : mV te ρ1 s2 = .ok (frz rr) s3 := by unfold mV; rw [q]
          simp only [e, WV_ok]
          cases frz rr with
          | d y => by_cases h : acc.length < sizeLine <;> simp [h]
          | c y => rfl
          | s y => rfl
          | o y => rfl
        | er x s3 =>
          have e : mV te ρ1 s2 = .er x s3 := by unfold mV; rw [q]
          simp only [e]; rfl
        | no =>
          have e : mV te ρ1 s2 = .no := by unfold mV; rw [q]
          simp only [e]; rfl
    | er _ _ => rfl
    | no => rfl
  | er _ _ => rfl
  | no => rfl
@[simp] theorem W_mLc (mi : En → Sto → Res Src) (g : Gm) (tt : En → Sto → Res Bool) (te : Ev) (vs : List Nat) : WVe E (mLc mi g tt te vs ρ st) PE = WVe E (mi ρ st) fun dg s => WVe E (lcGo g tt te dg.2 dg.1 (wipeE ρ vs) dg.1 s []) fun ys s' => PE (.n (.l ys)) s' := by
  unfold mLc; rw [WV_bind]
  congr 1; funext dg s; rw [WV_bind]; rfl
@[simp] theorem W_mLc2 (mi : En → Sto → Res Src) (g : Gm) (tt : En → Sto → Res Bool) (mi1 : En → Sto → Res Src) (g1 : Gm) (tt1 : En → Sto → Res Bool) (te : Ev) (vs vs1 : List Nat) : WVe E (mLc2 mi g tt mi1 g1 tt1 te vs vs1 ρ st) PE = WVe E (mi ρ st) fun dg s => WVe E (lc2Go g tt mi1 g1 tt1 te dg.2 dg.1 vs1 (wipeE ρ vs) dg.1 s []) fun ys s' => PE (.n (.l ys)) s' := by
  unfold mLc2; rw [WV_bind]
  congr 1; funext dg s; rw [WV_bind]; rfl
@[simp] theorem W_ttY : WVe E (ttY ρ st) PB = PB true st := rfl
@[simp] theorem W_mLr (mi : En → Sto → Res (Int × Int)) : WVe E (mLr mi ρ st) PE = WVe E (mi ρ st) fun ij s => (rOk ij.1 ij.2 = true ∧ (ij.2 - ij.1).toNat ≤ 2 ^ 24) ∧ PE (.n (.l (rngD ij.1 ij.2))) s := by
  unfold mLr; rw [WV_bind]
  congr 1; funext ij s
  by_cases h : rOk ij.1 ij.2 = true ∧ (ij.2 - ij.1).toNat ≤ 2 ^ 24
  · rw [if_pos h]; simp [h]
  · rw [if_neg h]; exact propext ⟨fun z => False.elim z, fun z => h z.1⟩
/-! ### operators at ints, texts -/
@[simp] theorem fAdd_i (i j : Int) : fAdd (.int i) (.int j) = some (.d (.int (i + j))) := rfl
@[simp] theorem fAdd_s (i j : Str) : fAdd (.str i) (.str j) = if i.length + j.length ≤ sizeLine then some (.d (.str (i ++ j))) else none := rfl
@[simp] theorem fAdd_t (i j : List PyData) : fAdd (.tuple i) (.tuple j) = if i.length + j.length ≤ sizeLine then some (.d (.tuple (i ++ j))) else none := rfl
@[simp] theorem fAdd_l (i j : List PyData) : fAdd (.list i) (.list j) = if i.length + j.length ≤ sizeLine then some (.n (.l (i ++ j))) else none := rfl
@[simp] theorem fI_i (p : Int → Int → Bool) (g : Int → Int → Int) (i j : Int) : fI p g (.int i) (.int j) = if p i j = true then some (.d (.int (g i j))) else none := rfl
@[simp] theorem fMulA_i (i j : Int) : fMulA (.int i) (.int j) = if pMul i j = true then some (.d (.int (i * j))) else none := by
  show (match (if pMul i j = true then some (Rv.d (.int (i * j))) else none) with | some z => some z | none => none) = _
  by_cases h : pMul i j = true <;> simp [h]
@[simp] theorem fMulA_s (i : Str) (k : Int) : fMulA (.str i) (.int k) = if -(2 ^ 63) ≤ k ∧ k < 2 ^ 63 ∧ i.length * k.toNat ≤ sizeLine then some (.d (.str (Txt.mul i k))) else none := rfl
@[simp] theorem fIx_l (xs : List PyData) (i : Int) : fIx (.list xs) (.int i) = (atI xs i).map .d := rfl
@[simp] theorem fIx_t (xs : List PyData) (i : Int) : fIx (.tuple xs) (.int i) = (atI xs i).map .d := rfl
@[simp] theorem g1_d (f : PyData → Option Rv) (x : PyData) : g1 f st [.d x] = f x := rfl
@[simp] theorem g1_c (f : PyData → Option Rv) (i : Nat) : g1 f st [.c i] = (view st (.c i)).bind f := by
  show (match view st (.c i) with | some d => f d | none => none) = _
  cases view st (.c i) <;> rfl
@[simp] theorem gLen_s (ns : List Int) : gLen st [.s ns] = some (.d (.int ns.length)) := rfl
@[simp] theorem gLen_d (d : PyData) : gLen st [.d d] = fLen d := rfl
@[simp] theorem gLen_c (i : Nat) : gLen st [.c i] = (view st (.c i)).bind fLen := g1_c fLen i
@[simp] theorem fLen_l (xs : List PyData) : fLen (.list xs) = some (.d (.int xs.length)) := rfl
@[simp] theorem fLen_t (xs : List PyData) : fLen (.tuple xs) = some (.d (.int xs.length)) := rfl
@[simp] theorem gII_i (f : Int → Int → Int) (i j : Int) : gII f st [.d (.int i), .d (.int j)] = some (.d (.int (f i j))) := rfl
@[simp] theorem fAbs_i (i : Int) : fAbs (.int i) = some (.d (.int (if i < 0 then -i else i))) := rfl
@[simp] theorem fInt_i (i : Int) : fInt (.int i) = some (.d (.int i)) := rfl
@[simp] theorem fInt_b (i : Bool) : fInt (.bool i) = some (.d (.int (if i then 1 else 0))) := rfl
/-- the text of an int -/
def txI (i : Int) : Str := Str.ofString (toString i)
@[simp] theorem fStr_i (i : Int) : fStr (.int i) = if i.natAbs.log2 < 1920 then some (.d (.str (txI i))) else none := rfl
@[simp] theorem fTuple_l (xs : List PyData) : fTuple (.list xs) = some (.d (.tuple xs)) := rfl
@[simp] theorem fTuple_t (xs : List PyData) : fTuple (.tuple xs) = some (.d (.tuple xs)) := rfl
@[simp] theorem fNeg_i (i : Int) : fNeg (.int i) = some (.int (-i)) := rfl
@[simp] theorem gI_i (p : Int → Int → Bool) (i j : Int) : gI p (.int i) (.int j) = some (p i j) := rfl
theorem cmp2_of {g : PyData → PyData → Option Bool} {x y : Vl} {a b : PyData} (h1 : view st x = some a) (h2 : view st y = some b) : cmp2 g st x y = g a b := by
  unfold cmp2; rw [h1, h2]
@[simp] theorem cmp2_dd (g : PyData → PyData → Option Bool) (a b : PyData) : cmp2 g st (.d a) (.d b) = g a b := rfl
@[simp] theorem oneI_i (j : Int) : oneI [.d (.int j)] = some j := rfl
@[simp] theorem twoI_i (i j : Int) : twoI [.d (.int i), .d (.int j)] = some (i, j) := rfl
@[simp] theorem srcOf_l (xs : List PyData) : srcOf st (.d (.list xs)) = some (xs, none) := rfl
@[simp] theorem srcOf_tp (xs : List PyData) : srcOf st (.o (.tp xs)) = some (xs, none) := rfl
@[simp] theorem srcOf_t (xs : List PyData) : srcOf st (.d (.tuple xs)) = some (xs, none) := rfl
@[simp] theorem srcEn_l (xs : List PyData) : srcEn st [.d (.list xs)] = some (enumF 0 xs, none) := rfl
@[simp] theorem srcEn_t (xs : List PyData) : srcEn st [.d (.tuple xs)] = some (enumF 0 xs, none) := rfl
@[simp] theorem Grd_none (ds : List PyData) : Grd none ds st = True := rfl
@[simp] theorem atI_zero {α : Type} (x : α) (xs : List α) : atI (x :: xs) 0 = some x := by
  unfold atI ixN
  simp
theorem atI_at {α : Type} {xs : List α} {i : Int} {k : Nat} (h : i = (k : Nat)) (hk : k < xs.length) : atI xs i = xs[k]? := by
  subst h
  unfold atI ixN
  rw [if_pos (by omega), if_pos (by omega)]
  rfl
theorem pMul_of {i j : Int} {a b : Nat} (hi : i.natAbs < 2 ^ a) (hj : j.natAbs < 2 ^ b) (hab : a + b < 1000000) : pMul i j = true := by
  have lg : ∀ (n k : Nat), n < 2 ^ k → n.log2 ≤ k := fun n k h => by
    by_cases hn : n = 0
    · subst hn; simp
    · exact Nat.le_of_lt ((Nat.log2_lt hn).mpr h)
  unfold pMul
  have := lg _ _ hi
  have := lg _ _ hj
  exact decide_eq_true (by omega)
end
end Cp
/-! Ce: errors of the program's own: raised, caught, kept in a name, asked. -/
namespace Cp
open PySem PySem.Spec PyProof.Rows L2
section
variable {X : Cx} {C : Addr} {bmB : List Value} {B newId initId : String}
/-- X(), made without arguments -/
theorem pmk_own0 {x : Str} {p pos : Pos} (F : ExcBaseFacts B newId initId bmB) (q : PySem.W.excIn X.K C bmB newId = true) (gC : X.mg x = some (.ref C)) (kC : PySem.W.keepIn X.K (.ref C) = true) (r : Raises X (.ref C)) (hg : Gl X x)
    (hdb : (x == ("__debug__" : Str)) = false := by decide) : PMk X (.Call (.Name x p) [] [] pos) (fun _ H Q => Q (.ref C) none H) := by
  intro pins s σ H Q I h
  refine wpAny_Call_Name_kw (ld_glob I hg gC ?_ hdb)
  refine PySem.W.callWith_K0 I.kIn kC ?_
  show wpAny _ _ (call (.ref C) []) _ _ _
  obtain ⟨bm, N, nm, qn, bs, hdct, sn, sub, ab, col, dd, k0, k1, k2, k3, k5, mN, hC, hN, hni, T⟩ := exc_obj I.kIn q
  refine wpAny_call_exc_subT F T hC hN hni (fun h' e hm => ?_) (Nat.zero_le _)
  exact mk_of I hm r h (I.hok.gone hm.new)
/-- raise X() -/
def sRaise (x : Str) : Sv := fun _ st => .er ⟨x, none⟩ st
theorem x_raise0 {k : Nat} {Cc : Cn} {x : Str} {p pos pos' : Pos} (Bb : Bd k X Cc) (gC : X.mg x = some (.ref (He.ga X.K x)))
    (c : PySem.W.excIn X.K (He.ga X.K x) He.veBase "ValueError.__new__" = true ∧ PySem.W.keepIn X.K (.ref (He.ga X.K x)) = true ∧ PySem.W.subIn X.K (.ref (He.ga X.K x)) (.type "BaseException") = some true ∧ PySem.W.typeIn X.K (.ref (He.ga X.K x)) = some (.type "type"))
    (hg : Gl X x) (hdb : (x == ("__debug__" : Str)) = false := by decide) : PS X (.Raise (some (.Call (.Name x p) [] [] pos)) none pos') (tS Cc (sRaise x)) :=
  (ps_raise Bb.cm Bb.tk (pmk_own0 PySem.F.excBase_ValueError c.1 gC c.2.1 (raises_own c.2.2.1 c.2.2.2) hg hdb)).imp fun D σ H ⟨ρ, st, μ, F, h1, h2, h3⟩ => by
    have h3 : Erw (Cc.at σ) μ F H ⟨x, none⟩ st := h3
    exact h3 (.ref (He.ga X.K x)) none μ F H Ext.refl h2 ⟨by rw [← Bb.hK], rfl⟩
end
/-- raise X(e): the value is data -/
def sRaise1 (x f : Str) (ma : En → Sto → Res (List Vl)) : Sv := fun ρ st => (ma ρ st).toS fun xs s => match xs with
  | [.d y] => .er ⟨x, some (f, y)⟩ s
  | _ => .no
/-! ### try: body, except x as n: suite, the error kept -/
/-- which of the named classes an except clause takes -/
abbrev Cat := List (Str × Bool)
/-- try: .. except .. as n (slot i): suite -/
def sTry (i : Nat) (cat : Cat) (sb ss : Sv) : Sv := fun ρ st => match sb ρ st with
  | .er e s => match cat.lookup e.cls with
    | some true => match ss (ρ.set i (some (.o (.er e)))) s with
      | .nx ρ' s' => .nx (ρ'.set i none) s'
      | .bk ρ' s' => .bk (ρ'.set i none) s'
      | .ct ρ' s' => .ct (ρ'.set i none) s'
      | .rt r s' => .rt r s'
      | .er _ _ => .no
      | .no => .no
    | some false => .er e s
    | none => .no
  | r => r
section
variable {X : Cx} {C : Cn} {k : Nat} {x n : Str} {i : Nat} {b : Stmt} {suite : List Stmt} {b₀ : Stmt} {np pos pos' : Pos} {sb ss : Sv} {cat : Cat}
/-- the context of a try's body: what is wished hangs on the slots -/
abbrev Cn.try_ (C : Cn) (W : WX) : Cn := ⟨C.K, C.mg, W, []⟩
theorem Bd.tr (B : Bd k X C) {W : WX} {pn : List (Addr × Obj)} {xe : Value → Shared → Prop} (tk : Takes (X.tr pn xe) W) (hp : PassesOwn (model X.prog X.w) X.A X.env xe) : Bd k (X.tr pn xe) (C.try_ W) :=
  ⟨B.cm, B.nd, hp, fun σ => passAt tk σ, B.hK, B.hw, B.hm, B.rm, tk⟩
/-- try: .. except ..: suite -/
def sTryN (cat : Cat) (sb ss : Sv) : Sv := fun ρ st => match sb ρ st with
  | .er e s => match cat.lookup e.cls with
    | some true => match ss ρ s with
      | .er _ _ => .no
      | r => r
    | some false => .er e s
    | none => .no
  | r => r
end
end Cp
/-! Ct: isinstance, zip, chains of comparisons. -/
namespace Cp
open PySem L2
section
variable {X : Cx} {C : Cn} {Q : VK} {μ : Mu} {F H : Hp} {st : Sto} {e a b c : Expr} {m ma mb mc : Ev} {pos p p2 tpos : Pos} {mas : En → Sto → Res (List Vl)} {elts : List Expr} {kk : Nat}
/-! ### chains -/
def mChn (g g' : PyData → PyData → Option Bool) (ma mb mc : Ev) : En → Sto → Res Bool := fun ρ st => (mV ma ρ st).bind fun x s1 => (mV mb ρ s1).bind fun y s2 => match cmp2 g s2 x y with
  | some true => (mV mc ρ s2).bind fun z s3 => okB (cmp2 g' s3 y z) s3
  | some false => .ok false s2
  | none => .no
/-! ### isinstance -/
def tyD : PyData → String
  | .none => "NoneType"
  | .bool _ => "bool"
  | .int _ => "int"
  | .str _ => "str"
  | .list _ => "list"
  | .tuple _ => "tuple"
  | .dict _ => "dict"
/-- a dict whose keys are not flat (or an instance) -/
def isQ : PyData → Bool
  | .dict kvs => !flK kvs
  | _ => false
@[simp] theorem isQ_none : isQ .none = false := rfl
@[simp] theorem isQ_bool (b : Bool) : isQ (.bool b) = false := rfl
@[simp] theorem isQ_int (b : Int) : isQ (.int b) = false := rfl
@[simp] theorem isQ_str (b : Str) : isQ (.str b) = false := rfl
@[simp] theorem isQ_list (b : List PyData) : isQ (.list b) = false := rfl
@[simp] theorem isQ_tuple (b : List PyData) : isQ (.tuple b) = false := rfl
@[simp] theorem isQ_dict0 : isQ (.dict []) = false := rfl
def kitQ (d : PyData) (T : String) : Option Bool := if isQ d then none else kitB (tyD d) T
def mIsi (T : String) (ma : Ev) : Ev := fun ρ st => (mV ma ρ st).bind fun x s => match (view s x).bind fun d => kitQ d T with
  | some k => .ok (.d (.bool k)) s
  | none => .no
@[simp] theorem W_mIsi {ρ : En} {T : String} {E : Er → Sto → Prop} {P : Rv → Sto → Prop} : WVe E (mIsi T ma ρ st) P = WVe E (ma ρ st) fun r s => WO (view s (frz r)) fun d => isQ d = false ∧ WO (kitB (tyD d) T) fun k => P (.d (.bool k)) s := by
  unfold mIsi; rw [WV_bind, W_mV]
  congr 1; funext r s
  cases view s (frz r) with
  | none => rfl
  | some d => simp only [Option.bind, WO_some, kitQ]; cases isQ d <;> cases kitB (tyD d) T <;> simp <;> rfl
def isT (T : String) (d : PyData) : Bool := tyD d == T || (T == "int" && tyD d == "bool")
theorem kitB_int : ∀ d : PyData, kitB (tyD d) "int" = some (isT "int" d)
  | .none => (show kitB "NoneType" "int" = some false by decide +kernel)
  | .bool _ => (show kitB "bool" "int" = some true by decide +kernel)
  | .int _ => (show kitB "int" "int" = some true by decide +kernel)
  | .str _ => (show kitB "str" "int" = some false by decide +kernel)
  | .list _ => (show kitB "list" "int" = some false by decide +kernel)
  | .tuple _ => (show kitB "tuple" "int" = some false by decide +kernel)
  | .dict _ => (show kitB "dict" "int" = some false by decide +kernel)
theorem kitB_bool : ∀ d : PyData, kitB (tyD d) "bool" = some (isT "bool" d)
  | .none => (show kitB "NoneType" "bool" = some false by decide +kernel)
  | .bool _ => (show kitB "bool" "bool" = some true by decide +kernel)
  | .int _ => (show kitB "int" "bool" = some false by decide +kernel)
  | .str _ => (show kitB "str" "bool" = some false by decide +kernel)
  | .list _ => (show kitB "list" "bool" = some false by decide +kernel)
  | .tuple _ => (show kitB "tuple" "bool" = some false by decide +kernel)
  | .dict _ => (show kitB "dict" "bool" = some false by decide +kernel)
theorem kitB_tuple : ∀ d : PyData, kitB (tyD d) "tuple" = some (isT "tuple" d)
  | .none => (show kitB "NoneType" "tuple" = some false by decide +kernel)
  | .bool _ => (show kitB "bool" "tuple" = some false by decide +kernel)
  | .int _ => (show kitB "int" "tuple" = some false by decide +kernel)
  | .str _ => (show kitB "str" "tuple" = some false by decide +kernel)
  | .list _ => (show kitB "list" "tuple" = some false by decide +kernel)
  | .tuple _ => (show kitB "tuple" "tuple" = some true by decide +kernel)
  | .dict _ => (show kitB "dict" "tuple" = some false by decide +kernel)
@[simp] theorem W_mChn {ρ : En} {g g' : PyData → PyData → Option Bool} {E : Er → Sto → Prop} {P : Bool → Sto → Prop} : WVe E (mChn g g' ma mb mc ρ st) P = WVe E (ma ρ st) fun r1 s1 => WVe E (mb ρ s1) fun r2 s2 => WO (cmp2 g s2 (frz r1) (frz r2)) fun k => if k = true then WVe E (mc ρ s2) fun r3 s3 => WO (cmp2 g' s3 (frz r2) (frz r3)) fun k => P k s3 else P false s2 := by
  unfold mChn; rw [WV_bind, W_mV]
  congr 1; funext r1 s1; rw [WV_bind, W_mV]
  congr 1; funext r2 s2
  cases cmp2 g s2 (frz r1) (frz r2) with
  | none => rfl
  | some k =>
    cases k with
    | false => rfl
    | true =>
      simp only [WO_some, if_true]
      rw [WV_bind, W_mV]
      congr 1; funext r3 s3; rw [WV_okB]
/-! ### zip -/
def zipF : List PyData → List PyData → List PyData
  | a :: as, b :: bs => .tuple [a, b] :: zipF as bs
  | _, _ => []
theorem zipF_get : ∀ (as bs : List PyData) (i : Nat) (d : PyData), (zipF as bs)[i]? = some d → ∃ a b, as[i]? = some a ∧ bs[i]? = some b ∧ d = .tuple [a, b]
  | [], _, i, d, h => by simp [zipF] at h
  | _ :: _, [], i, d, h => by simp [zipF] at h
  | a :: as, b :: bs, 0, d, h => ⟨a, b, rfl, rfl, by simpa [zipF] using h.symm⟩
  | a :: as, b :: bs, i + 1, d, h => by
    obtain ⟨x, y, h1, h2, h3⟩ := zipF_get as bs i d (by simpa [zipF] using h)
    exact ⟨x, y, by simpa using h1, by simpa using h2, h3⟩
theorem zipF_len : ∀ (as bs : List PyData), as.length ≤ (zipF as bs).length ∨ bs.length ≤ (zipF as bs).length
  | [], _ => .inl (Nat.zero_le _)
  | _ :: _, [] => .inr (Nat.zero_le _)
  | a :: as, b :: bs => (zipF_len as bs).imp (fun h => Nat.succ_le_succ h) fun h => Nat.succ_le_succ h
def srcZp (xs : List Vl) : Option Src := match xs with
  | [.d (.list xs), .d (.list ys)] => some (zipF xs ys, none)
  | [.d (.tuple xs), .d (.tuple ys)] => some (zipF xs ys, none)
  | _ => none
/-- a tuple known whole, as data -/
def tpD : Vl → Vl
  | .o (.tp ds) => .d (.tuple ds)
  | x => x
@[simp] theorem tpD_d (d : PyData) : tpD (.d d) = .d d := rfl
@[simp] theorem tpD_c (i : Nat) : tpD (.c i) = .c i := rfl
@[simp] theorem tpD_tp (ds : List PyData) : tpD (.o (.tp ds)) = .d (.tuple ds) := rfl
theorem tpD_ok {K : Kw} {x : Vl} {v : V} (h : Vok K F μ x v) : Vok K F μ (tpD x) v := by
  cases x with
  | o y =>
    cases y with
    | tp ds => obtain ⟨a, xs, o, rfl, h1, _, h2⟩ := h; exact Dq.tup (.inr ⟨o, h1⟩) h2
    | _ => exact h
  | _ => exact h
theorem tpD_all {K : Kw} : ∀ {xs : List Vl} {vs : List V}, VokAll K F μ xs vs → VokAll K F μ (xs.map tpD) vs
  | _, _, .nil => .nil
  | _, _, .cons h t => .cons (tpD_ok h) (tpD_all t)
def iZp (ma : En → Sto → Res (List Vl)) : En → Sto → Res Src := fun ρ st => (ma ρ st).bind fun xs s => okO (srcZp (xs.map tpD)) s
@[simp] theorem srcZp_l (xs ys : List PyData) : srcZp [.d (.list xs), .d (.list ys)] = some (zipF xs ys, none) := rfl
@[simp] theorem srcZp_t (xs ys : List PyData) : srcZp [.d (.tuple xs), .d (.tuple ys)] = some (zipF xs ys, none) := rfl
@[simp] theorem W_iZp {ρ : En} {P : Src → Sto → Prop} : WVe noE (iZp mas ρ st) P = WVe noE (mas ρ st) fun xs s => WO (srcZp (xs.map tpD)) fun dg => P dg s := by
  unfold iZp; rw [WV_bind]
  congr 1; funext xs s; rw [WV_okO]
theorem i_zip (hg : Gl X "zip") (hm : X.mg "zip" = none) (ha : PA X [a, b] (tAs C mas)) (hs : starEach [a, b] X.env = (false, eval a X.env) :: starEach [b] X.env := by rfl) (hpl : (backTo pos (starEach [b] X.env)).any (·.1) = false := by rfl) :
    PI X (.Tuple elts kk tpos) (.Call (.Name "zip" p) [a, b] [] pos) (tI C (iZp mas)) :=
  (RZ.pi_zipA hg hm ha hs hpl).imp fun σ H R ⟨ρ, st, μ, F, h1, h2, h3⟩ => ⟨ρ, st, μ, F, h1, h2, Post.bindA gW_lat h3 fun x s v μ1 F1 H1 x1 r1 k1 h4 => by
    replace k1 := tpD_all k1
    generalize x.map tpD = x at k1 h4
    unfold srcZp at h4
    split at h4
    · rename_i xs ys
      simp only [okO] at h4
      obtain ⟨v1, v2, rfl, g1, g2⟩ := k1.two
      cases (show Dq C.K F1 v1 (.list xs) from g1) with
      | lst a1 a2 =>
        cases (show Dq C.K F1 v2 (.list ys) from g2) with
        | lst b1 b2 =>
          refine ⟨_, _, _, _, rfl, .inl ⟨SqL.of (r1.sub _ _ a1), SqL.of (r1.sub _ _ b1), h4 _ μ1 F1 H1 Ext.refl r1 ⟨fun i μ2 F2 H2 st2 d x2 r2 _ e => ?_, fun μ2 F2 H2 st2 x2 r2 _ => ?_⟩⟩⟩
          · obtain ⟨p1, p2, e1, e2, rfl⟩ := zipF_get _ _ _ _ e
            have c1 := SqL.of (K := X.K) (r2.sub _ _ (x2.same _ _ a1))
            have c2 := SqL.of (K := X.K) (r2.sub _ _ (x2.same _ _ b1))
            obtain ⟨y1, f1, f2⟩ := (a2.same x2.same).get e1
            obtain ⟨y2, f3, f4⟩ := (b2.same x2.same).get e2
            refine ⟨⟨_, _, _, _, c1, c2, f1, f3⟩, fun x H3 ⟨T, u1, u2, e3, e4, e5, e6, e7⟩ => ?_⟩
            subst e3 e5
            have := e6 _ c1
            rw [f1] at this; cases this
            have := e7 _ c2
            rw [f3] at this; cases this
            exact r2.tupled e4 f2 f4
          · refine ⟨_, _, SqL.of (K := X.K) (r2.sub _ _ (x2.same _ _ a1)), SqL.of (K := X.K) (r2.sub _ _ (x2.same _ _ b1)), ?_⟩
            rw [a2.length, b2.length]
            exact zipF_len xs ys
    · rename_i xs ys
      simp only [okO] at h4
      obtain ⟨v1, v2, rfl, g1, g2⟩ := k1.two
      cases (show Dq C.K F1 v1 (.tuple xs) from g1) with
      | tup a1 a2 =>
        cases (show Dq C.K F1 v2 (.tuple ys) from g2) with
        | tup b1 b2 =>
          refine ⟨_, _, _, _, rfl, .inr ⟨SqT.rd r1.sub a1, SqT.rd r1.sub b1, h4 _ μ1 F1 H1 Ext.refl r1 ⟨fun i μ2 F2 H2 st2 d x2 r2 _ e => ?_, fun μ2 F2 H2 st2 x2 r2 _ => ?_⟩⟩⟩
          · obtain ⟨p1, p2, e1, e2, rfl⟩ := zipF_get _ _ _ _ e
            have c1 := SqT.rd (KK := X.K) r2.sub (same_rd x2.same a1)
            have c2 := SqT.rd (KK := X.K) r2.sub (same_rd x2.same b1)
            obtain ⟨y1, f1, f2⟩ := (a2.same x2.same).get e1
            obtain ⟨y2, f3, f4⟩ := (b2.same x2.same).get e2
            refine ⟨⟨_, _, _, _, c1, c2, f1, f3⟩, fun x H3 ⟨T, u1, u2, e3, e4, e5, e6, e7⟩ => ?_⟩
            subst e3 e5
            have := e6 _ c1
            rw [f1] at this; cases this
            have := e7 _ c2
            rw [f3] at this; cases this
            exact r2.tupled e4 f2 f4
          · refine ⟨_, _, SqT.rd (KK := X.K) r2.sub (same_rd x2.same a1), SqT.rd (KK := X.K) r2.sub (same_rd x2.same b1), ?_⟩
            rw [a2.length, b2.length]
            exact zipF_len xs ys
    · simp only [okO] at h4; exact False.elim h4⟩
end
end Cp
/-! Ci: what is asked of a caught error that a name holds: isinstance, its field, is None. -/
namespace Cp
open PySem PySem.Spec PyProof.Rows L2
section
variable {X : Cx} {C : Cn} {a b : Expr} {ma mb : Ev} {p p2 pos : Pos} {x y f : Str}
/-- isinstance(e, Y), isinstance(e, (Y, Z)): an error by its class, None is none -/
def mIsE (cat : Cat) (ma : Ev) : Ev := fun ρ st => (mV ma ρ st).bind fun x s => match x with
  | .o (.er e) => match cat.lookup e.cls with
    | some k => .ok (.d (.bool k)) s
    | none => .no
  | .d .none => .ok (.d (.bool false)) s
  | _ => .no
/-- e.f -/
def mErF (zs : List Str) (f : Str) (ma : Ev) : Ev := fun ρ st => (mV ma ρ st).bind fun x s => match x with
  | .o (.er ⟨c, some (g, y)⟩) => if g = f ∧ c ∈ zs then .ok (.d y) s else .no
  | _ => .no
end
end Cp
namespace Cp
open PySem PySem.Spec PyProof.Rows L2
section
variable {X : Cx} {C : Cn} {a b : Expr} {ma mb : Ev} {p p2 pos : Pos}
/-- is None, is not None, of a name that may hold an error -/
def mIsNn (neg : Bool) (ma : Ev) : En → Sto → Res Bool := fun ρ st => (mV ma ρ st).bind fun x s => match x with
  | .o (.er _) => .ok neg s
  | .d d => .ok (xor neg (isNone d)) s
  | _ => .no
end
end Cp
/-! Cd: dicts that are written out. -/
namespace Cp
open PySem L2
section
variable {X : Cx} {C : Cn} {Q : VK} {μ : Mu} {F H : Hp} {st : Sto} {pos : Pos} {keys : List (Option Expr)} {values : List Expr}
def mPairs : List (Ev × Ev) → En → Sto → Res (List (PyData × PyData))
  | [], _, st => .ok [] st
  | (mk, mv) :: r, ρ, st => (mV mk ρ st).bind fun x s1 => (mV mv ρ s1).bind fun y s2 => match x, y with
    | .d a, .d b => (mPairs r ρ s2).bind fun kvs s3 => .ok ((a, b) :: kvs) s3
    | _, _ => .no
/-- keys: ints and texts, each once -/
def keyD : PyData → Option Key
  | .int i => some (.inl i)
  | .str x => some (.inr x)
  | _ => none
def keysD : List (PyData × PyData) → Option (List Key)
  | [] => some []
  | (k, _) :: r => match keyD k, keysD r with
    | some k, some ks => if ks.any (fun j => decide (j = k)) = true then none else some (k :: ks)
    | _, _ => none
def mDct (prs : List (Ev × Ev)) : Ev := fun ρ st => (mPairs prs ρ st).bind fun kvs s => if (keysD kvs).isSome = true ∧ kvs.length ≤ 15 then .ok (.n (.m kvs)) s else .no
theorem keyD_ok {K : Kw} {v : V} {d : PyData} {k : Key} (h : Dq K F v d) (e : keyD d = some k) : v = kV k ∧ d = kD k := by
  cases d with
  | int i => cases e; cases h; exact ⟨rfl, rfl⟩
  | str i => cases e; cases h; exact ⟨rfl, rfl⟩
  | _ => cases e
/-! ### reading a dict by a key -/
def keyB : PyData → PyData → Bool
  | .int i, .int j => decide (i = j)
  | .str x, .str y => decide (x = y)
  | _, _ => false
def lookK : List (PyData × PyData) → PyData → Option PyData
  | [], _ => none
  | (j, v) :: r, k => if keyB j k then some v else lookK r k
def OptOk (K : Kw) (F : Hp) : Option V → Option PyData → Prop
  | some v, some d => Dq K F v d
  | none, none => True
  | _, _ => False
def vRv : Vl → Rv
  | .d x => .d x
  | .c i => .c i
  | .s ns => .s ns
  | .o x => .o x
/-- d.get(k, x) -/
def mDGet2 (md mk mx : Ev) : Ev := fun ρ st => (mV md ρ st).bind fun x s1 => match view s1 x with
  | some (.dict kvs0) => if flK kvs0 = true then (mV mk ρ s1).bind fun y s2 => (mV mx ρ s2).bind fun z s3 => match view s3 x, y with
    | some (.dict kvs), .d y => if flK kvs = true then (if (keyD y).isSome then (match lookK kvs y with
      | some v => .ok (.d v) s3
      | none => .ok (vRv z) s3) else .no) else .no
    | _, _ => .no else .no
  | _ => .no
variable {a b c : Expr} {ma mb mc : Ev} {apos : Pos}
/-- {} -/
def mD0 : Ev := fun _ st => .ok (.n (.m [])) st
theorem s_d0 : PE X (.Dict [] [] pos) (tM C mD0) := pe_dnewK.imp fun σ H Q ⟨ρ, st, μ, F, h1, h2, h3⟩ p hp => by
  obtain ⟨s1, x1⟩ := h2.newly (o := .dK []) hp
  have dd := h2.dead hp
  exact h3 _ μ F _ ⟨x1, s1, ⟨p, _, rfl, upd_same, .inl ⟨[], rfl, .nil⟩, dd.1, dd.2⟩, fun _ _ => ⟨p, rfl, hp⟩⟩
end
end Cp
/-! Cx: weakest preconditions of errors, tries, whiles, dicts. -/
namespace Cp
open PySem L2
section
variable {E : Er → Sto → Prop} {st : Sto} {ρ : En} {N B C : En → Sto → Prop} {R : Rv → Sto → Prop} {PE : Rv → Sto → Prop} {PB : Bool → Sto → Prop} {ma mb mc : Ev} {mas : En → Sto → Res (List Vl)} {cat : Cat}
@[simp] theorem W_sRaise (x : Str) : WSe E (sRaise x ρ st) N B C R = E ⟨x, none⟩ st := rfl
@[simp] theorem W_sRaise1 (x f : Str) : WSe E (sRaise1 x f mas ρ st) N B C R = WVe E (mas ρ st) fun xs s => match xs with
    | [.d y] => E ⟨x, some (f, y)⟩ s
    | _ => False := by
  unfold sRaise1; rw [WS_toS]
  congr 1; funext xs s
  cases xs with
  | nil => rfl
  | cons x r => cases r with
    | nil => cases x <;> rfl
    | cons y r => cases x <;> rfl
@[simp] theorem W_sTry (i : Nat) (sb ss : Sv) : WSe E (sTry i cat sb ss ρ st) N B C R = WSe (fun e s => match cat.lookup e.cls with
    | some true => WSe noE (ss (ρ.set i (some (.o (.er e)))) s) (fun ρ' s' => N (ρ'.set i none) s') (fun ρ' s' => B (ρ'.set i none) s') (fun ρ' s' => C (ρ'.set i none) s') R
    | some false => E e s
    | none => False) (sb ρ st) N B C R := by
  unfold sTry
  cases sb ρ st with
  | er e s =>
    show WSe E (match cat.lookup e.cls with
      | some true => _
      | some false => .er e s
      | none => .no) N B C R = match cat.lookup e.cls with
      | some true => _
      | some false => E e s
      | none => False
    cases cat.lookup e.cls with
    | none => rfl
    | some v =>
      cases v with
      | false => rfl
      | true => dsimp only; cases ss (ρ.set i (some (.o (.er e)))) s <;> rfl
  | _ => rfl
@[simp] theorem W_sTryN (sb ss : Sv) : WSe E (sTryN cat sb ss ρ st) N B C R = WSe (fun e s => match cat.lookup e.cls with
    | some true => WSe noE (ss ρ s) N B C R
    | some false => E e s
    | none => False) (sb ρ st) N B C R := by
  unfold sTryN
  cases sb ρ st with
  | er e s =>
    show WSe E (match cat.lookup e.cls with
      | some true => _
      | some false => .er e s
      | none => .no) N B C R = match cat.lookup e.cls with
      | some true => _
      | some false => E e s
      | none => False
    cases cat.lookup e.cls with
    | none => rfl
    | some v =>
      cases v with
      | false => rfl
      | true => dsimp only; cases ss ρ s <;> rfl
  | _ => rfl
@[simp] theorem W_mIsE : WVe E (mIsE cat ma ρ st) PE = WVe E (ma ρ st) fun r s => match frz r with
    | .o (.er e) => WO (cat.lookup e.cls) fun k => PE (.d (.bool k)) s
    | .d .none => PE (.d (.bool false)) s
    | _ => False := by
  unfold mIsE; rw [WV_bind, W_mV]
  congr 1; funext r s
  generalize frz r = v
  cases v with
  | o o =>
    cases o with
    | er e => dsimp only; cases cat.lookup e.cls <;> rfl
    | _ => rfl
  | d d => cases d <;> rfl
  | _ => rfl
@[simp] theorem W_mErF (zs : List Str) (f : Str) : WVe E (mErF zs f ma ρ st) PE = WVe E (ma ρ st) fun r s => match frz r with
    | .o (.er ⟨c, some (g, y)⟩) => (g = f ∧ c ∈ zs) ∧ PE (.d y) s
    | _ => False := by
  unfold mErF; rw [WV_bind, W_mV]
  congr 1; funext r s
  generalize frz r = v
  cases v with
  | o o =>
    cases o with
    | er e =>
      obtain ⟨c, a⟩ := e
      cases a with
      | none => rfl
      | some p =>
        obtain ⟨g, y⟩ := p
        dsimp only
        by_cases h : g = f ∧ c ∈ zs
        · rw [if_pos h]; exact propext ⟨fun z => ⟨h, z⟩, fun z => z.2⟩
        · rw [if_neg h]; exact propext ⟨fun z => False.elim z, fun z => absurd z.1 h⟩
    | _ => rfl
  | _ => rfl
@[simp] theorem W_mIsNn (neg : Bool) : WVe E (mIsNn neg ma ρ st) PB = WVe E (ma ρ st) fun r s => match frz r with
    | .o (.er _) => PB neg s
    | .d d => PB (xor neg (isNone d)) s
    | _ => False := by
  unfold mIsNn; rw [WV_bind, W_mV]
  congr 1; funext r s
  generalize frz r = v
  cases v with
  | o o => cases o <;> rfl
  | _ => rfl
/-! ### dicts -/
@[simp] theorem W_mD0 : WVe E (mD0 ρ st) PE = PE (.n (.m [])) st := rfl
@[simp] theorem W_mPairs_nil {PA : List (PyData × PyData) → Sto → Prop} : WVe E (mPairs [] ρ st) PA = PA [] st := rfl
@[simp] theorem W_mPairs_cons {mk mv : Ev} {r : List (Ev × Ev)} {PA : List (PyData × PyData) → Sto → Prop} : WVe E (mPairs ((mk, mv) :: r) ρ st) PA = WVe E (mk ρ st) fun x s1 => WVe E (mv ρ s1) fun y s2 => match frz x, frz y with
    | .d a, .d b => WVe E (mPairs r ρ s2) fun kvs s3 => PA ((a, b) :: kvs) s3
    | _, _ => False := by
  rw [mPairs, WV_bind, W_mV]
  congr 1; funext x s1; rw [WV_bind, W_mV]
  congr 1; funext y s2
  generalize frz x = x
  generalize frz y = y
  cases x with
  | d a => cases y with
    | d b => dsimp only; rw [WV_bind]; rfl
    | _ => rfl
  | _ => rfl
@[simp] theorem W_mDct (prs : List (Ev × Ev)) : WVe E (mDct prs ρ st) PE = WVe E (mPairs prs ρ st) fun kvs s => ((keysD kvs).isSome = true ∧ kvs.length ≤ 15) ∧ PE (.n (.m kvs)) s := by
  unfold mDct; rw [WV_bind]
  congr 1; funext kvs s
  by_cases h : (keysD kvs).isSome = true ∧ kvs.length ≤ 15
  · rw [if_pos h]; exact propext ⟨fun z => ⟨h, z⟩, fun z => z.2⟩
  · rw [if_neg h]; exact propext ⟨fun z => False.elim z, fun z => absurd z.1 h⟩
@[simp] theorem flK_nil : flK [] = true := rfl
@[simp] theorem flK_str (x : Str) (d : PyData) (r : List (PyData × PyData)) : flK ((.str x, d) :: r) = flK r := rfl
@[simp] theorem flK_int (x : Int) (d : PyData) (r : List (PyData × PyData)) : flK ((.int x, d) :: r) = flK r := rfl
@[simp] theorem vRv_eq (x : Vl) : vRv x = Rv.of x := by cases x <;> rfl
@[simp] theorem W_mDGet2 : WVe E (mDGet2 ma mb mc ρ st) PE = WVe E (ma ρ st) fun r1 s1 => match view s1 (frz r1) with
    | some (.dict kvs0) => flK kvs0 = true ∧ WVe E (mb ρ s1) fun r2 s2 => WVe E (mc ρ s2) fun r3 s3 => (match view s3 (frz r1), frz r2 with
      | some (.dict kvs), .d y => flK kvs = true ∧ (keyD y).isSome = true ∧ (match lookK kvs y with
        | some v => PE (.d v) s3
        | none => PE (Rv.of (frz r3)) s3)
      | _, _ => False)
    | _ => False := by
  unfold mDGet2; rw [WV_bind, W_mV]
  congr 1; funext r1 s1
  cases view s1 (frz r1) with
  | none => rfl
  | some d =>
    cases d with
    | dict kvs0 =>
      dsimp only
      by_cases hf0 : flK kvs0 = true
      case neg => rw [if_neg hf0]; exact propext ⟨fun z => False.elim z, fun z => absurd z.1 hf0⟩
      rw [if_pos hf0, and_iff_right hf0, WV_bind, W_mV]
      congr 1; funext r2 s2; rw [WV_bind, W_mV]
      congr 1; funext r3 s3
      generalize frz r2 = y
      cases view s3 (frz r1) with
      | none => rfl
      | some d =>
        cases d with
        | dict kvs =>
          cases y with
          | d y =>
            dsimp only
            by_cases hf : flK kvs = true
            case neg => rw [if_neg hf]; exact propext ⟨fun z => False.elim z, fun z => absurd z.1 hf⟩
            rw [if_pos hf, and_iff_right hf]
            by_cases h : (keyD y).isSome = true
            · rw [if_pos h]
              cases lookK kvs y with
              | none => rw [vRv_eq]; exact propext ⟨fun z => ⟨h, z⟩, fun z => z.2⟩
              | some v => exact propext ⟨fun z => ⟨h, z⟩, fun z => z.2⟩
            · rw [if_neg h]; exact propext ⟨fun z => False.elim z, fun z => absurd z.1 h⟩
          | _ => rfl
        | _ => rfl
    | _ => rfl
/-! ### while -/
end
end Cp
/-! Cn: tuples and tables of the module, name += e. -/
namespace Cp
open PySem L2
/-! ### a tuple of texts of the module, on the right of in -/
def isS (v : Value) (z : Str) : Bool := match v with
  | .str y _ => decide (y = z)
  | _ => false
def strsV : List Value → List Str → Bool
  | [], [] => true
  | v :: r, z :: zs => isS v z && strsV r zs
  | _, _ => false
def tupB (x : Str) (zs : List Str) : Fb := fun K => (He.Fa.glo x).ok K && match K.lookup (He.ga K x) with
  | some ⟨.type c, _, .seq its _, _⟩ => decide (c = "tuple") && (decide (its.size ≤ 1000) && strsV its.toList zs)
  | _ => false
theorem isS_ok {v : Value} {z : Str} (h : isS v z = true) : RelV (.str z) v := by
  unfold isS at h
  split at h
  · rename_i y t
    have e : y = z := of_decide_eq_true h
    subst e
    exact ⟨t, rfl⟩
  · cases h
theorem strsV_ok : ∀ {vs : List Value} {zs : List Str}, strsV vs zs = true → Vals (zs.map V.str) vs
  | [], [], _ => .nil
  | v :: r, z :: zs, h => by
    unfold strsV at h
    rw [Bool.and_eq_true] at h
    exact .cons (isS_ok h.1) (strsV_ok h.2)
  | [], _ :: _, h => by cases h
  | _ :: _, [], h => by cases h
/-- where the tuple stands -/
structure TupC (K : PySem.W.Frag) (mg : Str → Option Value) (x : Str) (zs : List Str) : Prop where
  g : mg x = some (.ref (He.ga K x))
  t : ∀ H, SqT K H (He.ga K x) (zs.map V.str)
theorem tupB_ok {x : Str} {zs : List Str} {K : PySem.W.Frag} {h : Heap} {mg : Str → Option Value} (X : K.In h) (G : h.Ns mainGlobals mg) (c : tupB x zs K = true) : TupC K mg x zs := by
  obtain ⟨c1, c2⟩ := He.ba c
  refine ⟨He.glo_ok X G c1, fun H => ?_⟩
  cases q : K.lookup (He.ga K x) with
  | none => rw [q] at c2; cases c2
  | some o =>
    rw [q] at c2
    obtain ⟨oc, od, dt, osl⟩ := o
    cases oc with
    | type c =>
      cases dt with
      | seq its n =>
        obtain ⟨c3, c4⟩ := He.ba c2
        obtain ⟨c5, c6⟩ := He.ba c4
        have e : c = "tuple" := of_decide_eq_true c3
        have hz : its.size ≤ 1000 := of_decide_eq_true c5
        subst e
        exact .inr ⟨_, its, n, q, rfl, rfl, Nat.le_trans hz (by decide), strsV_ok c6⟩
      | _ => cases c2
    | _ => cases c2
section
variable {X : Cx} {C : Cn} {Q : VK} {μ : Mu} {F H : Hp} {st : Sto} {e : Expr} {ma mb : Ev} {pos p : Pos} {x : Str} {zs : List Str}
theorem cmpC_core {β : Type} {G : β → Sto → Mu → Hp → Hp → Prop} (gl : Lat G) {r : R2} {g : PyData → PyData → Option Bool} {y : V} {db : PyData} (ok : ∀ (a : PyData) (k : Bool) (v : V) (μ : Mu) (F H : Hp) (st : Sto) (Q : VK), SR C.K μ F H st → Vw C.K F H v a → g a db = some k → Q (.bl k) H → r v y H Q)
    {σ : St} {ρ : En} {R : VK} {kk : Bool → Sto → Res β} (h3 : Post (C.at σ) G μ F H ((mCmp g ma (mK db) ρ st).bind kk)) (fin : ∀ k s μ1 F1 H1, Ext μ F H μ1 F1 H1 → SR C.K μ1 F1 H1 s → Post (C.at σ) G μ1 F1 H1 (kk k s) → R (.bl k) H1) :
    PostV (C.at σ) (fun x H1 => r x y H1 R) μ F H (mV ma ρ st) := by
  have h3' : Post (C.at σ) G μ F H ((mV ma ρ st).bind fun x s1 => (okB (cmp2 g s1 x (.d db)) s1).bind kk) := by
    revert h3
    unfold mCmp
    cases mV ma ρ st <;> exact id
  refine Post.bindV gl h3' fun x s v μ1 F1 H1 x1 r1 k1 h5 => ?_
  cases q0 : cmp2 g s x (.d db) with
  | none => rw [q0] at h5; exact False.elim h5
  | some k =>
    rw [q0] at h5
    unfold cmp2 at q0
    cases q1 : view s x with
    | none => rw [q1] at q0; cases q0
    | some da =>
      rw [q1] at q0
      exact ok da k v μ1 F1 H1 s R r1 (view_ok r1 k1 q1) q0 (fin k s μ1 F1 H1 x1 r1 h5)
theorem flat_strs {v : V} {d : PyData} {K : Kw} (h : Dq K F v d) (f : flatD d = true) : ∀ zs : List Str, (zs.map V.str).all flatV = true ∧ inV v (zs.map V.str) = (zs.map PyData.str).any (fun y => eqF y d) := fun zs => by
  have : DqAll K F (zs.map V.str) (zs.map PyData.str) := by
    induction zs with
    | nil => exact .nil
    | cons z zs ih => exact .cons (.str z) ih
  exact flat_all h f this (by rw [List.all_map]; exact List.all_eq_true.mpr fun _ _ => rfl)
theorem gInC_ok {neg : Bool} (hK : C.K.K = X.K) (T : TupC X.K X.mg x zs) (a : PyData) (k : Bool) (v : V) (μ : Mu) (F H : Hp) (st : Sto) (Q : VK) (s : SR C.K μ F H st) (va : Vw C.K F H v a) (e : gIn neg a (.tuple (zs.map PyData.str)) = some k) (q : Q (.bl k) H) :
    rIn X.K neg v (.ref (He.ga X.K x)) H Q := by
  unfold gIn at e
  simp only [itemsD] at e
  split at e
  · rename_i hh
    rw [Bool.and_eq_true] at hh
    cases e
    obtain ⟨h1, h2⟩ := flat_strs (va.flat hh.1) hh.1 zs
    exact ⟨_, _, rfl, .inr (T.t H), (flat_dq (va.flat hh.1) hh.1).1, h1, by rw [h2]; exact q⟩
  · cases e
theorem t_inC {neg : Bool} {op : CmpOp} (ho : OpR X (compareOp op) (rIn X.K neg)) (hK : C.K.K = X.K) (T : TupC X.K X.mg x zs) (hg : Gl X x) (ha : PE X e (tM C ma)) (hm : behindInMarks op (.Name x p) = false) (hd : (x == ("__debug__" : Str)) = false := by decide) :
    PT X (.Compare e [op] [.Name x p] pos) (tT C (mCmp (gIn neg) ma (mK (.tuple (zs.map PyData.str))))) := by
  have h := pt_cmpR (pos := pos) ho (pv_frz ha) (pe_glob (v := .ref (He.ga X.K x)) hg T.g rfl hd) hm
  refine ⟨fun pins s σ H Q I ⟨ρ, st, μ, F, h1, h2, h3⟩ => h.run pins s σ H Q I ⟨ρ, st, μ, F, h1, h2, ?_⟩⟩
  have h3' : PostB (C.at σ) Q μ F H ((mCmp (gIn neg) ma (mK (.tuple (zs.map PyData.str))) ρ st).bind fun k s => .ok k s) := by
    revert h3
    cases mCmp (gIn neg) ma (mK (.tuple (zs.map PyData.str))) ρ st <;> exact id
  exact cmpC_core (R := fun v H1 => ∃ k, v = .bl k ∧ Q k H1) gB_lat (gInC_ok hK T) h3' fun k s μ1 F1 H1 x1 r1 h => ⟨k, rfl, h μ1 F1 H1 Ext.refl r1⟩
/-! ### name += e, of ints -/
def sAugI (i : Nat) (ma : Ev) : Sv := fun ρ st => match ρ[i]? with
  | some (some (.d (.int a))) => (mV ma ρ st).toS fun y s => match y with
    | .d (.int b) => .nx (ρ.set i (some (.d (.int (a + b))))) s
    | _ => .no
  | _ => .no
variable {E : Er → Sto → Prop} {ρ : En} {N B K : En → Sto → Prop} {R : Rv → Sto → Prop}
@[simp] theorem W_sAugI (i : Nat) : WSe E (sAugI i ma ρ st) N B K R = (match ρ[i]? with
    | some (some (.d (.int a))) => WVe E (ma ρ st) fun y s => (match frz y with
      | .d (.int b) => N (ρ.set i (some (.d (.int (a + b))))) s
      | _ => False)
    | _ => False) := by
  unfold sAugI
  split
  · rw [WS_toS, W_mV]
    congr 1; funext y s
    split <;> simp_all
  · rename_i h
    rfl
end
/-! ### a table of the module: texts to ints; .get of it -/
def mTabG (kvs : List (Str × Int)) (ma : Ev) : Ev := fun ρ st => (mV ma ρ st).bind fun y s => match y with
  | .d (.str z) => .ok (.d (match kvs.lookup z with
    | some i => .int i
    | none => .none)) s
  | _ => .no
section
variable {X : Cx} {C : Cn} {e : Expr} {ma : Ev} {apos cpos p : Pos} {x : Str} {kvs : List (Str × Int)}
variable {E : Er → Sto → Prop} {ρ : En} {st : Sto} {PE' : Rv → Sto → Prop}
@[simp] theorem W_mTabG : WVe E (mTabG kvs ma ρ st) PE' = WVe E (ma ρ st) fun r s => (match frz r with
    | .d (.str z) => PE' (.d (match kvs.lookup z with
      | some i => .int i
      | none => .none)) s
    | _ => False) := by
  unfold mTabG; rw [WV_bind, W_mV]
  congr 1; funext y s
  split <;> simp_all
end
/-! ### the head's own look, with tables -/
abbrev AlX : Type := He.AlD × List (Option (List (Option (Str × Int))))
def obsXT (fb : List Fb) (fn : List He.DefD) (ts : List He.Tab) (K : PySem.W.Frag) : AlX := (obsX fb fn K, ts.map fun t => He.dicW K (t.1 K))
def valXT (fn : List He.DefD) (ts : List He.Tab) (w : World) : AlX := (He.valD fn, ts.map fun t => some (He.keysIn w.params t.2))
def SaysXT (fb : List Fb) (fn : List He.DefD) (ts : List He.Tab) (w : World) (K : PySem.W.Frag) : Prop := obsXT fb fn ts K = valXT fn ts w
def sysB : Fb := fun K => match K.lookup sysModules with
  | some ⟨_, _, .dict _ _, _⟩ => true
  | _ => false
theorem sysB_ok {K : PySem.W.Frag} (h : sysB K = true) : SysK K := by
  unfold sysB at h
  cases q : K.lookup sysModules with
  | none => rw [q] at h; cases h
  | some o =>
    rw [q] at h
    obtain ⟨oc, od, dt, osl⟩ := o
    cases dt with
    | dict es n => exact ⟨_, es, n, q, rfl⟩
    | _ => cases h
def obsXTG (n : Nat) (fb : List Fb) (fn : List He.DefD) (ts : List He.Tab) (g : Addr → Option Obj) : AlX := obsXT fb fn ts (He.frG g (sysModules :: He.asD g n))
def hookXT (n : Nat) (fb : List Fb) (fn : List He.DefD) (ts : List He.Tab) : PySem.W.Hook where
  α := AlX
  obs := fun s => obsXTG n fb fn ts s.heap.get?
  val := fun w => valXT fn ts w
  says := fun w h => ∃ K : PySem.W.Frag, K.In h ∧ SaysXT fb fn ts w K
  of := fun _ _ e => ⟨_, He.frG_in, e⟩
  keeps := fun _ _ _ ⟨K, hK, c⟩ k => ⟨K, PySem.W.Frag.In.keeps hK k, c⟩
theorem obsXTG_eq {n : Nat} {fb : List Fb} {fn : List He.DefD} {ts : List He.Tab} {g : Addr → Option Obj} {s : Shared} (h : ∀ a, g a = s.heap.get? a) : obsXTG n fb fn ts g = (hookXT n fb fn ts).obs s := by
  have e : g = s.heap.get? := funext h
  rw [e] <;> rfl
section
variable {fb : List Fb} {fn : List He.DefD} {ts : List He.Tab} {w : World} {K : PySem.W.Frag}
theorem SaysXT.x (c : SaysXT fb fn ts w K) : SaysX fb fn K := congrArg (fun z : AlX => z.1) c
end
end Cp
/-! Dd: dicts, their keys ints and texts or tuples: in, d[k], d[k] = v. -/
namespace Cp
open PySem L2
def gnD (d : PyData) : Bool := match d with
  | .tuple xs => (match keysN xs with
    | some ks => decide ((NestedKey.tup ks).depth ≤ 8)
    | none => false)
  | _ => false
def gnK (kvs : List (PyData × PyData)) : Bool := kvs.all fun p => gnD p.1
def okK (kvs : List (PyData × PyData)) (k : PyData) : Bool := (flK kvs && (keyD k).isSome) || (gnK kvs && gnD k)
def keyE (a b : PyData) : Bool := decide (keyN a = keyN b)
def lookD : List (PyData × PyData) → PyData → Option PyData
  | [], _ => none
  | (j, v) :: r, k => if keyE j k then some v else lookD r k
def putD (kvs : List (PyData × PyData)) (k v : PyData) : List (PyData × PyData) :=
  if (kvs.any fun p => keyE p.1 k) = true then kvs.map (fun p => if keyE p.1 k = true then (p.1, v) else p) else kvs ++ [(k, v)]
theorem gnD_ok {d : PyData} (h : gnD d = true) : ∃ xs ks, d = .tuple xs ∧ keyN d = some (.tup ks) ∧ (NestedKey.tup ks).depth ≤ 8 := by
  cases d with
  | tuple xs =>
    unfold gnD at h
    cases q : keysN xs with
    | none => simp only [q] at h; cases h
    | some ks =>
      simp only [q] at h
      exact ⟨xs, ks, rfl, by unfold keyN; rw [q], of_decide_eq_true h⟩
  | _ => cases h
theorem keyE_kD {j k : Key} : keyE (kD j) (kD k) = decide (j = k) := by
  unfold keyE
  cases j <;> cases k <;> simp [kD, keyN]
section
variable {K : Kw} {F H : Hp}
theorem any_flat {k : Key} : ∀ {ws : List (Key × V)} {kvs : List (PyData × PyData)}, DqKv K F ws kvs → (kvs.any fun p => keyE p.1 (kD k)) = ws.any fun kv => decide (kv.1 = k)
  | _, _, .nil => rfl
  | (j, v) :: ws, _, .cons (d := d) h t => by rw [List.any_cons, List.any_cons, keyE_kD, any_flat t]
theorem map_flat {k : Key} {x : V} {d : PyData} (hx : Dq K F x d) : ∀ {ws : List (Key × V)} {kvs : List (PyData × PyData)}, DqKv K F ws kvs → DqKv K F (ws.map fun kv => if kv.1 = k then (kv.1, x) else kv) (kvs.map fun p => if keyE p.1 (kD k) = true then (p.1, d) else p)
  | _, _, .nil => .nil
  | (j, v) :: ws, _, .cons (d := d') h t => by
    rw [List.map_cons, List.map_cons, keyE_kD]
    by_cases q : j = k
    · rw [if_pos q, if_pos (decide_eq_true q)]; exact .cons hx (map_flat hx t)
    · rw [if_neg q, if_neg (by simpa using q)]; exact .cons h (map_flat hx t)
theorem app_flat : ∀ {ws us : List (Key × V)} {kvs lvs : List (PyData × PyData)}, DqKv K F ws kvs → DqKv K F us lvs → DqKv K F (ws ++ us) (kvs ++ lvs)
  | _, _, _, _, .nil, h => h
  | _, _, _, _, .cons h t, g => .cons h (app_flat t g)
theorem put_flat {k : Key} {x : V} {d : PyData} {ws : List (Key × V)} {kvs : List (PyData × PyData)} (h : DqKv K F ws kvs) (hx : Dq K F x d) : DqKv K F (putK ws k x) (putD kvs (kD k) d) := by
  unfold putK putD
  rw [any_flat h]
  by_cases q : (ws.any fun kv => decide (kv.1 = k)) = true
  · rw [if_pos q, if_pos q]; exact map_flat hx h
  · rw [if_neg q, if_neg q]; exact app_flat h (.cons hx .nil)
/-! ### keys that are tuples -/
abbrev Ge := NestedKey × Addr × V
def lookG (es : List Ge) (k : NestedKey) : Option V := (es.find? fun e => decide (e.1 = k)).map (·.2.2)
def putG (es : List Ge) (k : NestedKey) (b : Addr) (v : V) : List Ge :=
  if (es.any fun e => decide (e.1 = k)) = true then es.map (fun e => if e.1 = k then (e.1, e.2.1, v) else e) else es ++ [(k, b, v)]
theorem keyE_at {a b : PyData} {j k : NestedKey} (h1 : keyN a = some j) (h2 : keyN b = some k) : keyE a b = decide (j = k) := by
  unfold keyE
  rw [h1, h2]
  by_cases q : j = k
  · rw [decide_eq_true q, decide_eq_true (by rw [q])]
  · rw [decide_eq_false q, decide_eq_false (fun z => q (Option.some.inj z))]
theorem lookG_ok {k : NestedKey} {kd : PyData} (hk : keyN kd = some k) : ∀ {es : List Ge} {kvs : List (PyData × PyData)}, DqG K F es kvs → OptOk K F (lookG es k) (lookD kvs kd)
  | _, _, .nil => trivial
  | (j, b, v) :: es, _, .cons h1 h2 h3 h4 t => by
    unfold lookD lookG
    rw [List.find?_cons, keyE_at h2 hk]
    cases q : decide (j = k) with
    | true => exact h4
    | false => exact lookG_ok hk t
theorem anyG_ok {k : NestedKey} {kd : PyData} (hk : keyN kd = some k) : ∀ {es : List Ge} {kvs : List (PyData × PyData)}, DqG K F es kvs → (kvs.any fun p => keyE p.1 kd) = es.any fun e => decide (e.1 = k)
  | _, _, .nil => rfl
  | (j, b, v) :: es, _, .cons h1 h2 h3 h4 t => by rw [List.any_cons, List.any_cons, keyE_at h2 hk, anyG_ok hk t]
theorem mapG_ok {k : NestedKey} {kd : PyData} (hk : keyN kd = some k) {x : V} {d : PyData} (hx : Dq K F x d) : ∀ {es : List Ge} {kvs : List (PyData × PyData)}, DqG K F es kvs → DqG K F (es.map fun e => if e.1 = k then (e.1, e.2.1, x) else e) (kvs.map fun p => if keyE p.1 kd = true then (p.1, d) else p)
  | _, _, .nil => .nil
  | (j, b, v) :: es, _, .cons h1 h2 h3 h4 t => by
    rw [List.map_cons, List.map_cons, keyE_at h2 hk]
    by_cases q : j = k
    · rw [if_pos q, if_pos (decide_eq_true q)]; exact .cons h1 h2 h3 hx (mapG_ok hk hx t)
    · rw [if_neg q, if_neg (by simpa using q)]; exact .cons h1 h2 h3 h4 (mapG_ok hk hx t)
theorem appG_ok : ∀ {es us : List Ge} {kvs lvs : List (PyData × PyData)}, DqG K F es kvs → DqG K F us lvs → DqG K F (es ++ us) (kvs ++ lvs)
  | _, _, _, _, .nil, h => h
  | _, _, _, _, .cons h1 h2 h3 h4 t, g => .cons h1 h2 h3 h4 (appG_ok t g)
theorem putG_ok {k : NestedKey} {kd : PyData} (hk : keyN kd = some k) (hd : k.depth ≤ 8) {b : Addr} (hb : Dq K F (.ref b) kd) {x : V} {d : PyData} (hx : Dq K F x d) {es : List Ge} {kvs : List (PyData × PyData)} (h : DqG K F es kvs) : DqG K F (putG es k b x) (putD kvs kd d) := by
  unfold putG putD
  rw [anyG_ok hk h]
  by_cases q : (es.any fun e => decide (e.1 = k)) = true
  · rw [if_pos q, if_pos q]; exact mapG_ok hk hx h
  · rw [if_neg q, if_neg q]; exact appG_ok h (.cons hb hk hd hx .nil)
theorem putG_ne {es : List Ge} {k : NestedKey} {b : Addr} {v : V} : putG es k b v ≠ [] := by
  unfold putG
  split
  · rename_i q
    cases es with
    | nil => cases q
    | cons e es => simp
  · simp
theorem putG_nodup {es : List Ge} {k : NestedKey} {b : Addr} {v : V} (h : (es.map (·.1)).Nodup) : ((putG es k b v).map (·.1)).Nodup := by
  unfold putG
  split
  · have e : (es.map fun e => if e.1 = k then (e.1, e.2.1, v) else e).map (·.1) = es.map (·.1) := by
      rw [List.map_map]
      refine List.map_congr_left fun e _ => ?_
      show (if e.1 = k then (e.1, e.2.1, v) else e).1 = e.1
      split <;> rfl
    rw [e]; exact h
  · rename_i q
    rw [List.map_append, List.nodup_append]
    refine ⟨h, by simp, fun a ha c hc e => ?_⟩
    rw [List.map_cons, List.map_nil, List.mem_singleton] at hc
    subst e hc
    obtain ⟨x, hx, e⟩ := List.mem_map.mp ha
    exact q (List.any_eq_true.mpr ⟨x, hx, decide_eq_true e⟩)
theorem putG_len {es : List Ge} {k : NestedKey} {b : Addr} {v : V} : (putG es k b v).length ≤ es.length + 1 := by
  unfold putG
  split <;> simp
end
/-! ### in the heap -/
section
variable {P : Program} {w : World} {K : Kw} {F H : Hp} {h : Heap}
mutual
theorem Dq.nest (ok : HOk P w H h) : ∀ {v : V} {d : PyData} {u : Value} {k : NestedKey}, Dq K H v d → RelV v u → keyN d = some k → NestedIs h k u
  | _, _, _, _, .non, r, e => by cases r; cases e; exact .none
  | _, _, _, _, .bl b, _, e => by cases e
  | _, _, _, _, .int i, r, e => by obtain ⟨t, rfl⟩ := r; cases e; exact .int i t
  | _, _, _, _, .str x, r, e => by obtain ⟨t, rfl⟩ := r; cases e; exact .text x t
  | _, _, _, _, .lst _ _, _, e => by cases e
  | _, .tuple ds, _, k, .tup (a := a) (xs := xs) g q, r, e => by
    cases r
    unfold keyN at e
    cases q1 : keysN ds with
    | none => rw [q1] at e; cases e
    | some ks =>
      rw [q1] at e
      cases e
      have g' : ObjOk P w H h a (.tup xs) := by
        rcases g with g | ⟨o, g⟩
        · exact ok a _ g
        · exact (ok a _ g).2
      obtain ⟨_, its, rv, o, ho, hc, n, hd⟩ := g'
      exact .tup ho hc hd (DqAll.nest ok q rv q1)
  | _, _, _, _, .dic _ _, _, e => by cases e
  | _, _, _, _, .dig _ _ _ _, _, e => by cases e
  | _, _, _, _, .ins _ _ _, _, e => by cases e
theorem DqAll.nest (ok : HOk P w H h) : ∀ {vs : List V} {ds : List PyData} {us : List Value} {ks : List NestedKey}, DqAll K H vs ds → Vals vs us → keysN ds = some ks → NestedAll h ks us
  | _, _, _, _, .nil, r, e => by cases r; cases e; exact .nil
  | _, d :: ds, _, ks, .cons g q, r, e => by
    cases r with
    | cons r1 r2 =>
      unfold keysN at e
      cases q1 : keyN d with
      | none => rw [q1] at e; cases e
      | some k =>
        cases q2 : keysN ds with
        | none => rw [q1, q2] at e; cases e
        | some ks' =>
          rw [q1, q2] at e
          cases e
          exact .cons (Dq.nest ok g r1 q1) (DqAll.nest ok q r2 q2)
end
theorem DqG.nests (ok : HOk P w H h) : ∀ {es : List Ge} {kvs : List (PyData × PyData)} {xs : List (NestedKey × Addr × Value)}, DqG K H es kvs → Paired DgPr es xs → ∀ x ∈ xs, (nestedKind P w).is h x.1 x.2.1
  | _, _, _, .nil, r, _, hx => by cases r; cases hx
  | _, _, _, .cons h1 h2 h3 h4 t, r, x, hx => by
    cases r with
    | cons r1 r2 =>
      rcases List.mem_cons.mp hx with rfl | hx
      · obtain ⟨e1, e2, _⟩ := r1
        show NestedIs h x.1 (.ref x.2.1) ∧ x.1.depth ≤ 8
        rw [← e1, ← e2]
        exact ⟨Dq.nest ok h1 rfl h2, h3⟩
      · exact DqG.nests ok t r2 x hx
/-- a dict whose keys are tuples, or none -/
theorem dc_gen (ok : HOk P w H h) (sub : Same F H) {a : Addr} {o : HO} {kvs : List (PyData × PyData)} (hw : K.w = w) (ha : H a = some o) (hc : DcOk K F a kvs o) (g : gnK kvs = true) :
    ∃ es xs, DqG K F es kvs ∧ (es.map (·.1)).Nodup ∧ Paired DgPr es xs ∧ h.DictOfH (nestedKind P w) a xs ∧ es.length ≤ sizeLine ∧ (a == sysModules) = false ∧ Mut (H a) := by
  rcases hc with ⟨ws, rfl, h2⟩ | ⟨es, ⟨r, rfl⟩, h2, h3, h4⟩
  · cases h2 with
    | nil =>
      obtain ⟨_, low, vs, kv, hd⟩ := ok a _ ha
      cases kv
      obtain ⟨o, ar, ep, e1, e2, e3, _, e4, _⟩ := hd
      have e6 : ar.toList = [] := by
        generalize ar.toList = l at e4
        cases e4; rfl
      exact ⟨[], [], .nil, List.nodup_nil, .nil, ⟨o, ar, ep, e1, e2, e3, by rw [e6]; rfl, fun _ z => (nomatch z), List.nodup_nil⟩, Nat.zero_le _, low, by rw [ha]; trivial⟩
    | cons _ _ =>
      unfold gnK at g
      rw [List.all_cons, Bool.and_eq_true] at g
      rename_i k _ _ _ _ _ _
      cases k <;> exact absurd g.1 Bool.false_ne_true
  · obtain ⟨⟨hl, low, xs, o, ar, ep, p, ⟨e1, _⟩, e2, e3, e4⟩, _⟩ := ok a _ ha
    refine ⟨es, xs, h2, h3, p, ⟨o, ar, ep, e1, e2, e3, ?_, DqG.nests ok (h2.same sub) p, ?_⟩, hl, low, by rw [ha]; trivial⟩
    · rw [e4, hw]; rfl
    · have : ∀ {es : List Ge} {xs : List (NestedKey × Addr × Value)}, Paired DgPr es xs → xs.map (·.1) = es.map (·.1) := by
        intro es xs p
        induction p with
        | nil => rfl
        | cons a _ ih => rw [List.map_cons, List.map_cons, ih, a.1]
      rw [this p]; exact h3
end
theorem lookX {es : List Ge} {xs : List (NestedKey × Addr × Value)} (p : Paired DgPr es xs) (k : NestedKey) : RelO (lookG es k) ((atKey xs k).map (·.2)) := by
  induction p with
  | nil => trivial
  | @cons e x es xs h t ih =>
    obtain ⟨e1, _, e3⟩ := h
    unfold lookG atKey at ih ⊢
    rw [List.find?_cons, List.find?_cons, e1]
    cases q : decide (x.1 = k) with
    | true => exact e3
    | false => exact ih
theorem anyX {es : List Ge} {xs : List (NestedKey × Addr × Value)} (p : Paired DgPr es xs) (k : NestedKey) : (es.any fun e => decide (e.1 = k)) = (atKey xs k).isSome := by
  induction p with
  | nil => rfl
  | @cons e x es xs h t ih =>
    unfold atKey at ih ⊢
    rw [List.any_cons, List.find?_cons, h.1]
    cases q : decide (x.1 = k) with
    | true => rfl
    | false => simpa using ih
theorem putX {es : List Ge} {xs : List (NestedKey × Addr × Value)} (p : Paired DgPr es xs) (k : NestedKey) (b : Addr) {v : V} {u : Value} (r : RelV v u) : Paired DgPr (putG es k b v) (storedH xs k b u) := by
  unfold putG storedH
  rw [anyX p k]
  by_cases q : (atKey xs k).isSome = true
  · rw [if_pos q, if_pos q]
    clear q
    induction p with
    | nil => exact .nil
    | @cons e x es xs h t ih =>
      rw [List.map_cons, List.map_cons]
      refine .cons ?_ ih
      unfold putAt
      rw [h.1]
      by_cases z : x.1 = k
      · rw [if_pos z, if_pos z]; exact ⟨rfl, h.2.1, r⟩
      · rw [if_neg z, if_neg z]; exact h
  · rw [if_neg q, if_neg q]
    clear q
    induction p with
    | nil => exact .cons ⟨rfl, rfl, r⟩ .nil
    | @cons e x es xs h t ih => exact .cons h ih
section
variable {X : Cx}
theorem okK_or {kvs : List (PyData × PyData)} {kd : PyData} (h : okK kvs kd = true) : (flK kvs = true ∧ ∃ k, keyD kd = some k) ∨ (gnK kvs = true ∧ gnD kd = true) := by
  unfold okK at h
  rw [Bool.or_eq_true, Bool.and_eq_true, Bool.and_eq_true] at h
  exact h.imp (fun h => ⟨h.1, Option.isSome_iff_exists.mp h.2⟩) id
def gInD (neg : Bool) (a b : PyData) : Option Bool := match b with
  | .dict kvs => if okK kvs a = true then some (if neg then !(lookD kvs a).isSome else (lookD kvs a).isSome) else none
  | _ => none
theorem dict_at {K : Kw} {F H : Hp} {v : V} {kvs : List (PyData × PyData)} {kd : PyData} (h : Vw K F H v (.dict kvs)) (ok : okK kvs kd = true) : ∃ a o, v = .ref a ∧ H a = some o ∧ DcOk K F a kvs o := by
  rcases h with h | ⟨x, r, rfl, _⟩
  · exact h
  · rcases okK_or ok with ⟨f, _⟩ | ⟨f, _⟩ <;> cases f
variable {C : Cn} {neg : Bool}
variable {a b : Expr} {ma mb : Ev} {pos : Pos} {k : Nat}
/-! ### d[k] -/
def fDix (a b : PyData) : Option Rv := match a with
  | .dict kvs => if okK kvs b = true then (lookD kvs b).map .d else none
  | _ => none
variable {o i : Expr} {mo mi : Ev}
/-! ### d[k] = v -/
def sDput (mo mk mv : Ev) : Sv := fun ρ st => (mV mv ρ st).toS fun x s1 => (mV mo ρ s1).toS fun y s2 => (mV mk ρ s2).toS fun z s3 => match x, y, z with
  | .d x, .c i, .d k => (match s3[i]? with
    | some (.m kvs) => if okK kvs k = true ∧ kvs.length < sizeLine then .nx ρ (s3.set i (.m (putD kvs k x))) else .no
    | _ => .no)
  | _, _, _ => .no
variable {value : Expr} {mv : Ev} {pos' : Pos}
variable {E : Er → Sto → Prop} {ρ : En} {st : Sto} {N Bk Ct : En → Sto → Prop} {R : Rv → Sto → Prop}
@[simp] theorem W_sDput : WSe E (sDput mo mi mv ρ st) N Bk Ct R = WVe E (mv ρ st) fun x s1 => WVe E (mo ρ s1) fun y s2 => WVe E (mi ρ s2) fun z s3 => (match frz x, frz y, frz z with
    | .d x, .c i, .d k => (match s3[i]? with
      | some (.m kvs) => (okK kvs k = true ∧ kvs.length < sizeLine) ∧ N ρ (s3.set i (.m (putD kvs k x)))
      | _ => False)
    | _, _, _ => False) := by
  unfold sDput
  rw [WS_toS, W_mV]
  congr 1; funext x s1; rw [WS_toS, W_mV]
  congr 1; funext y s2; rw [WS_toS, W_mV]
  congr 1; funext z s3
  generalize frz x = x'
  generalize frz y = y'
  generalize frz z = z'
  cases x' <;> cases y' <;> cases z' <;> try rfl
  rename_i x i k
  dsimp only
  cases s3[i]? with
  | none => rfl
  | some c =>
    cases c with
    | l _ => rfl
    | m kvs =>
      dsimp only
      by_cases hh : okK kvs k = true ∧ kvs.length < sizeLine
      · rw [if_pos hh]; exact propext ⟨fun z => ⟨hh, z⟩, fun z => z.2⟩
      · rw [if_neg hh]; exact propext ⟨fun z => False.elim z, fun z => absurd z.1 hh⟩
@[simp] theorem fDix_d (kvs : List (PyData × PyData)) (k : PyData) : fDix (.dict kvs) k = if okK kvs k = true then (lookD kvs k).map .d else none := rfl
@[simp] theorem gInD_d (neg : Bool) (a : PyData) (kvs : List (PyData × PyData)) : gInD neg a (.dict kvs) = if okK kvs a = true then some (if neg then !(lookD kvs a).isSome else (lookD kvs a).isSome) else none := rfl
end
end Cp
/-! De: d.update(d2), sorted(d) of flat dicts. -/
namespace Cp
open PySem L2
/-! ### d.update(d2), flat keys -/
def mergeD (kvs lvs : List (PyData × PyData)) : List (PyData × PyData) := lvs.foldl (fun acc p => putD acc p.1 p.2) kvs
section
variable {K : Kw} {F H : Hp}
theorem dqKv_len : ∀ {ws : List (Key × V)} {kvs : List (PyData × PyData)}, DqKv K F ws kvs → ws.length = kvs.length
  | _, _, .nil => rfl
  | _, _, .cons _ t => by rw [List.length_cons, List.length_cons, dqKv_len t]
end
section
variable {X : Cx} {C : Cn} {o e a : Expr} {mo ma : Ev} {apos cpos pos p : Pos}
def mUpd (mo ma : Ev) : Ev := fun ρ st => (mV mo ρ st).bind fun x s1 => match view s1 x with
  | some (.dict kvs0) => if flK kvs0 = true then (mV ma ρ s1).bind fun y s2 => match x, y with
    | .c i, .d (.dict lvs) => (match s2[i]? with
      | some (.m kvs) => if flK kvs = true ∧ flK lvs = true ∧ isGone (.m kvs) = false ∧ kvs.length + lvs.length ≤ sizeLine then .ok (.d .none) (s2.set i (.m (mergeD kvs lvs))) else .no
      | _ => .no)
    | _, _ => .no else .no
  | _ => .no
variable {E : Er → Sto → Prop} {ρ : En} {st : Sto} {PE' : Rv → Sto → Prop}
@[simp] theorem W_mUpd : WVe E (mUpd mo ma ρ st) PE' = WVe E (mo ρ st) fun x s1 => (match view s1 (frz x) with
    | some (.dict kvs0) => flK kvs0 = true ∧ WVe E (ma ρ s1) fun y s2 => (match frz x, frz y with
      | .c i, .d (.dict lvs) => (match s2[i]? with
        | some (.m kvs) => (flK kvs = true ∧ flK lvs = true ∧ isGone (.m kvs) = false ∧ kvs.length + lvs.length ≤ sizeLine) ∧ PE' (.d .none) (s2.set i (.m (mergeD kvs lvs)))
        | _ => False)
      | _, _ => False)
    | _ => False) := by
  unfold mUpd; rw [WV_bind, W_mV]
  congr 1; funext x s1
  generalize frz x = x'
  cases view s1 x' with
  | none => rfl
  | some d =>
    cases d with
    | dict kvs0 =>
      dsimp only
      by_cases hf0 : flK kvs0 = true
      case neg => rw [if_neg hf0]; exact propext ⟨fun z => False.elim z, fun z => absurd z.1 hf0⟩
      rw [if_pos hf0, and_iff_right hf0, WV_bind, W_mV]
      congr 1; funext y s2
      generalize frz y = y'
      cases x' with
      | c i =>
        cases y' with
        | d d =>
          cases d with
          | dict lvs =>
            dsimp only
            cases s2[i]? with
            | none => rfl
            | some c =>
              cases c with
              | l _ => rfl
              | m kvs =>
                dsimp only
                by_cases hh : flK kvs = true ∧ flK lvs = true ∧ isGone (.m kvs) = false ∧ kvs.length + lvs.length ≤ sizeLine
                · rw [if_pos hh]; exact propext ⟨fun z => ⟨hh, z⟩, fun z => z.2⟩
                · rw [if_neg hh]; exact propext ⟨fun z => False.elim z, fun z => absurd z.1 hh⟩
          | _ => rfl
        | _ => rfl
      | _ => rfl
    | _ => rfl
end
/-! ### sorted(d), its keys texts -/
def leS (x y : Str) : Bool := decide (x.cps.toList ≤ y.cps.toList)
theorem leS_anti {x y : Str} (h1 : x.cps.toList ≤ y.cps.toList) (h2 : y.cps.toList ≤ x.cps.toList) : x = y := PySem.W.str_of_cps (List.le_antisymm h1 h2)
/-- the texts in order -/
def sortS (ks : List Str) : List Str := ks.mergeSort leS
theorem sortS_ok (ks : List Str) : (sortS ks).Perm ks ∧ (sortS ks).Pairwise fun x y => x.cps.toList ≤ y.cps.toList := by
  refine ⟨List.mergeSort_perm _ _, ?_⟩
  have := List.pairwise_mergeSort (le := leS) (fun a b c h1 h2 => decide_eq_true (List.le_trans (of_decide_eq_true h1) (of_decide_eq_true h2))) (fun a b => by
    unfold leS
    rcases List.le_total a.cps.toList b.cps.toList with h | h
    · rw [decide_eq_true h]; rfl
    · rw [decide_eq_true h]; simp) ks
  exact this.imp fun h => of_decide_eq_true h
end Cp
/-! Cth: a lambda without parameters, handed to a def that calls it within a try. -/
namespace Cp
open PySem PySem.Spec PyProof.Rows L2 LamX
/-! ### the table as a cell -/
/-! ### the lambda is made -/
/-! ### its call, in the def that got it -/
/-! ### a def that takes a thunk -/
/-! ### g(lambda: e) -/
section
variable {X : Cx} {C : Cn} {k j n : Nat} {x g q : Str} {p pos lpos : Pos} {params : Arguments} {body : Expr} {scope : Scope} {mb : Ev} {sem : Th → (Sto → Res Rv) → Fs}
theorem SR.toDataM {K : Kw} {μ : Mu} {F H : Hp} {st : Sto} (s : SR K μ F H st) {i : Nat} {p : Addr} {kvs : List (PyData × PyData)} (hi : μ.l[i]? = some p) (h0 : st[i]? = some (.m kvs)) (hz : isGone (.m kvs) = false) : ∃ F2, SR K μ F2 H (st.set i gone) ∧ Ext μ F H μ F2 H ∧ Dq K F2 (.ref p) (.dict kvs) := by
  have i0 := s.ne0 h0 hz
  have hm : p ∈ μ := s.mem hi h0 hz
  have hil : i < μ.l.length := (List.getElem?_eq_some_iff.mp hi).1
  have hF := s.sep i p _ hi h0 (notDead hz)
  obtain ⟨p', o, g1, g2, g3⟩ := s.cell i _ h0 hz
  rw [hi] at g1; cases g1
  have sm : Same F (upd F p o) := fun b u h => by
    rw [upd_ne (fun e => by subst e; rw [hF] at h; cases h)]; exact h
  refine ⟨upd F p o, ⟨s.nd, by simp [s.len], fun j a d h h2 h3 => ?_, fun b u h => ?_, fun j d j0 h => ?_, ?_⟩, ⟨sm, ⟨[], by simp⟩, ⟨[], by simp⟩, fun _ _ h _ => h, fun _ h => h, fun a u h => ?_, fun _ h => .inl h⟩, DcOk.dq (DcOk.same sm g3) upd_same⟩
  · by_cases e : j = i
    · subst e
      rw [List.getElem?_set_self (by rw [← s.len]; exact hil)] at h2
      cases h2; cases h3
    · rw [List.getElem?_set_ne (Ne.symm e)] at h2
      have j0 : j ≠ 0 := fun z => by
        subst z
        obtain ⟨objs, k, _⟩ := s.obs
        rw [k] at h2; cases h2; cases h3
      rw [upd_ne (fun z => ?_)]; exact s.sep j a d h h2 h3
      subst z
      exact e (s.one h hi j0 i0)
  · by_cases e : b = p
    · subst e; rw [upd_same] at h; cases h; exact g2
    · rw [upd_ne e] at h; exact s.sub b u h
  · by_cases e : j = i
    · subst e
      rw [List.getElem?_set_self (by rw [← s.len]; exact hil)] at h
      cases h
      exact ⟨_, _, hi, g2, gone_w⟩
    · rw [List.getElem?_set_ne (Ne.symm e)] at h
      obtain ⟨a, u, h1, h2, h3⟩ := s.cell0 j d j0 h
      exact ⟨a, u, h1, h2, h3.same sm⟩
  · obtain ⟨objs, k1, k2, k3⟩ := s.obs
    refine ⟨objs, by rw [List.getElem?_set_ne i0]; exact k1, k2, fun j y e => ?_⟩
    obtain ⟨a, u, q1, q2, q3, q4⟩ := k3 j y e
    exact ⟨a, u, q1, by rw [upd_ne (Ne.symm (s.apart hi q1 i0))]; exact q2, q3, q4.same sm⟩
  · by_cases e : a = p
    · subst e; exact .inr (.inr hm)
    · rw [upd_ne e] at h; exact .inl h
end
end Cp
/-! Ck: xs.pop(i), dict(pairs), a thunk that takes a dict's cell along. -/
namespace Cp
open PySem L2
/-! ### dict(pairs) -/
end Cp
/-! Co: objects that change: made, their fields, their methods; lists of such. -/
namespace Cp
open PySem L2
/-! ### values of fields -/
def Fv.rv : Fv → Rv
  | .d x => .d x
  | .ob j => .o (.ob j)
def fvOf : Vl → Option Fv
  | .d x => some (.d x)
  | .o (.ob j) => some (.ob j)
  | _ => none
section
variable {K : Kw} {μ : Mu} {F H : Hp} {st : Sto}
theorem fvOf_ok {x : Vl} {v : V} {y : Fv} (h : Vok K F μ x v) (e : fvOf x = some y) : FvOk K F μ.η y v := by
  cases x with
  | d x => cases e; exact h
  | o x =>
    cases x with
    | ob j => cases e; exact h
    | _ => cases e
  | _ => cases e
def insAt (st : Sto) (j : Nat) (cls : Str) : Option (List (Str × Fv)) := match (objsOf st)[j]? with
  | some (.ins c fs) => if c = cls then some fs else none
  | _ => none
def olAt (st : Sto) (j : Nat) : Option (List Fv) := match (objsOf st)[j]? with
  | some (.lst xs) => some xs
  | _ => none
def putO (st : Sto) (j : Nat) (x : Ho) : Sto := st.set 0 (heapC ((objsOf st).set j x))
def newO (st : Sto) (x : Ho) : Sto := st.set 0 (heapC (objsOf st ++ [x]))
theorem insAt_ok {j : Nat} {cls : Str} {fs : List (Str × Fv)} (r : SR K μ F H st) (e : insAt st j cls = some fs) :
    ∃ objs a dx us, st[0]? = some (heapC objs) ∧ objsOf st = objs ∧ μ.η[j]? = some a ∧ F a = none ∧ H a = some (.ins (He.ga K.K cls) dx us) ∧ F dx = some (.own a) ∧ FlOk K F μ.η fs us := by
  unfold insAt at e
  split at e
  · rename_i c fs' hx
    split at e
    · rename_i hc
      subst hc
      cases e
      obtain ⟨objs, a, o, k1, k2, k3, k4, k5, k6, dx, us, rfl, k7, k8⟩ := r.obj hx
      exact ⟨objs, a, dx, us, k1, k2, k4, k5, k6, k7, k8⟩
    · cases e
  · cases e
def putFv (f : Str) (v : Fv) : List (Str × Fv) → List (Str × Fv)
  | [] => [(f, v)]
  | (g, x) :: r => if g = f then (g, v) :: r else (g, x) :: putFv f v r
theorem FlOk.put {η : List Addr} {f : Str} {y : Fv} {v : V} (h : FvOk K F η y v) : ∀ {fs : List (Str × Fv)} {us : List (Str × V)}, FlOk K F η fs us → FlOk K F η (putFv f y fs) (putF f v us)
  | _, _, .nil => .cons h .nil
  | (g, x) :: fs, (_, u) :: us, .cons h1 r => by
    unfold putFv putF
    by_cases e : g = f
    · rw [if_pos e, if_pos e]; exact .cons h r
    · rw [if_neg e, if_neg e]; exact .cons h1 (FlOk.put h r)
theorem FlOk.length {η : List Addr} : ∀ {fs : List (Str × Fv)} {us : List (Str × V)}, FlOk K F η fs us → fs.length = us.length
  | _, _, .nil => rfl
  | _, _, .cons _ r => by rw [List.length_cons, List.length_cons, r.length]
theorem FlOk.get {η : List Addr} {f : Str} {y : Fv} : ∀ {fs : List (Str × Fv)} {us : List (Str × V)}, FlOk K F η fs us → fs.lookup f = some y → ∃ v, us.lookup f = some v ∧ FvOk K F η y v
  | _, _, .nil, e => by cases e
  | (g, x) :: fs, (_, u) :: us, .cons h r, e => by
    rw [List.lookup_cons] at e ⊢
    cases q : f == g with
    | true => rw [q] at e; cases e; exact ⟨u, rfl, h⟩
    | false => rw [q] at e; exact FlOk.get r e
theorem FlOk.none {η : List Addr} {f : Str} : ∀ {fs : List (Str × Fv)} {us : List (Str × V)}, FlOk K F η fs us → fs.lookup f = Option.none → us.lookup f = Option.none
  | _, _, .nil, _ => rfl
  | (g, x) :: fs, (_, u) :: us, .cons h r, e => by
    rw [List.lookup_cons] at e ⊢
    cases q : f == g with
    | true => rw [q] at e; cases e
    | false => rw [q] at e; exact FlOk.none r e
theorem FvAll.length {η : List Addr} : ∀ {xs : List Fv} {us : List V}, FvAll K F η xs us → xs.length = us.length
  | _, _, .nil => rfl
  | _, _, .cons _ r => by rw [List.length_cons, List.length_cons, r.length]
theorem FvAll.app {η : List Addr} : ∀ {xs ys : List Fv} {us vs : List V}, FvAll K F η xs us → FvAll K F η ys vs → FvAll K F η (xs ++ ys) (us ++ vs)
  | _, _, _, _, .nil, h => h
  | _, _, _, _, .cons h r, h' => .cons h (FvAll.app r h')
theorem FvAll.get {η : List Addr} : ∀ {xs : List Fv} {us : List V} {i : Nat} {x : Fv}, FvAll K F η xs us → xs[i]? = some x → ∃ v, us[i]? = some v ∧ FvOk K F η x v
  | _, _, _, _, .nil, e => by simp at e
  | _, _, 0, _, .cons h _, e => by simp at e; subst e; exact ⟨_, rfl, h⟩
  | _, _, i + 1, _, .cons _ r, e => by
    obtain ⟨v, h1, h2⟩ := FvAll.get (i := i) r (by simpa using e)
    exact ⟨v, by simpa using h1, h2⟩
theorem FvAll.take {η : List Addr} : ∀ {xs : List Fv} {us : List V} (n : Nat), FvAll K F η xs us → FvAll K F η (xs.take n) (us.take n)
  | _, _, 0, _ => .nil
  | _, _, _ + 1, .nil => .nil
  | _, _, n + 1, .cons h r => .cons h (FvAll.take n r)
theorem FvAll.set {η : List Addr} {x : Fv} {v : V} (hx : FvOk K F η x v) : ∀ {xs : List Fv} {us : List V} (i : Nat), FvAll K F η xs us → FvAll K F η (xs.set i x) (us.set i v)
  | _, _, _, .nil => .nil
  | _, _, 0, .cons _ r => .cons hx r
  | _, _, i + 1, .cons h r => .cons h (FvAll.set hx i r)
end
/-! ### o.f -/
def mFld (cls f : Str) (mo : Ev) : Ev := fun ρ st => (mV mo ρ st).bind fun x s => match x with
  | .o (.ob j) => match (insAt s j cls).bind (·.lookup f) with
    | some y => .ok y.rv s
    | none => .no
  | _ => .no
section
variable {X : Cx} {C : Cn} {k j : Nat} {cls f m : Str} {p pos apos pos' : Pos} {o e value : Expr} {es : List Expr} {mo mv ma mb : Ev} {mas : En → Sto → Res (List Vl)} {sem : Fs}
/-! ### o.f = v -/
def tAttr (K : PySem.W.Frag) (to : TE) (f : Str) : TG := fun v σ H Q => to σ H fun x H1 => ∃ a C dx fs, x = .ref a ∧ H1 a = some (.ins C dx fs) ∧ Cls K C ∧ NoAttr K C f ∧ fs.length < 1000 ∧ Q σ (upd H1 a (.ins C dx (putF f v fs)))
theorem pg_attr {to : TE} (ho : PE X o to) : PG X (.Attribute o f pos) (tAttr X.K to f) := by
  refine ⟨fun pins s σ H v u Q I rv h => ?_⟩
  refine PySem.W.kas_attr (thn (ho.run pins s σ H _ I h) fun ov s1 ⟨x, H1, I1, rx, a, C, dx, fs, ex, ea, c, n, l, q⟩ => ?_)
  subst ex
  obtain rfl : ov = Value.ref a := rx
  exact setattr_ok I1 ea c n l rv fun s3 I3 => ⟨σ, _, I3, q⟩
def gFld (cls f : Str) (mo : Ev) : Gm := fun x ρ st => match fvOf x with
  | some y => (mV mo ρ st).bind fun o s => match o with
    | .o (.ob j) => match insAt s j cls with
      | some fs => if fs.length < 1000 then .ok ρ (putO s j (.ins cls (putFv f y fs))) else .no
      | none => .no
    | _ => .no
  | none => .no
theorem t_fld (hK : C.K.K = X.K) (c : Cls X.K (He.ga X.K cls)) (n : NoAttr X.K (He.ga X.K cls) f) (ho : PE X o (tM C mo)) : PG X (.Attribute o f pos) (tG C [] (gFld cls f mo)) :=
  (pg_attr (pv_frz ho)).imp fun v σ H Q ⟨ρ, st, μ, F, x, h1, h2, h3, h4⟩ => by
    unfold gFld at h4
    cases q : fvOf x with
    | none => simp only [q] at h4; exact False.elim h4
    | some y =>
      simp only [q] at h4
      have hy := fvOf_ok h3 q
      refine ⟨ρ, st, μ, F, h1, h2, Post.bindV gG_lat h4 fun o s vo μ1 F1 H1 x1 r1 k1 h5 => ?_⟩
      split at h5
      · rename_i j
        obtain ⟨a0, ha0, rfl⟩ := k1
        cases q2 : insAt s j cls with
        | none => simp only [q2] at h5; exact False.elim h5
        | some fs =>
          simp only [q2] at h5
          split at h5
          · rename_i hl
            obtain ⟨objs, a, dx, us, q1, q2', q3, q4, q5, q6, q7⟩ := insAt_ok r1 q2
            rw [ha0] at q3; cases q3
            have hp : HoOk C.K F1 μ1.η a0 (.ins cls (putFv f y fs)) (.ins (He.ga C.K.K cls) dx (putF f v us)) := ⟨dx, _, rfl, q6, q7.put (hy.ext x1)⟩
            obtain ⟨w1, w2⟩ := r1.owrite q1 ha0 hp
            have q5 : H1 a0 = some (.ins (He.ga C.K.K cls) dx us) := q5
            rw [hK] at q5 w1 w2
            refine ⟨a0, He.ga X.K cls, dx, us, rfl, q5, c, n, by rw [← q7.length]; exact hl, ?_⟩
            exact h5 σ μ1 F1 _ w2 (by unfold putO; rw [q2']; exact w1) (h1.ext (x1.trans w2)) ⟨rfl, fun _ _ => rfl⟩
          · exact False.elim h5
      · exact False.elim h5
/-! ### o.f op= n -/
def sFldI (cls f : Str) (neg : Bool) (mo mv : Ev) : Sv := fun ρ st => (mV mo ρ st).toS fun x s => match x with
  | .o (.ob j) => match (insAt s j cls).bind (·.lookup f) with
    | some (.d (.int n)) => (mV mv ρ s).toS fun y s2 => match y, insAt s2 j cls with
      | .d (.int i), some fs => if fs.length < 1000 then .nx ρ (putO s2 j (.ins cls (putFv f (.d (.int (if neg then n - i else n + i))) fs))) else .no
      | _, _ => .no
    | _ => .no
  | _ => .no
end
/-! ### methods -/
/-- a class that is known by its name, with its __init__ -/
def KnC (P : Program) (w : World) (K : PySem.W.Frag) (mg : Str → Option Value) (base : Heap) (cls : Str) (k : Nat) (sem : Fs) : Prop :=
  mg cls = some (.ref (He.ga K cls)) ∧ ∃ fd ps, Mk K (He.ga K cls) (He.ma K (He.ga K cls) "__init__") ∧ Binds K fd ps [] ∧ FnC P w K mg base k (He.ma K (He.ga K cls) "__init__") fd ps sem
def mMeth (cls m : Str) (sem : Fs) (mo : Ev) (mas : En → Sto → Res (List Vl)) : Ev := fun ρ st => (mV mo ρ st).bind fun x s1 => match x with
  | .o (.ob j) => match insAt s1 j cls with
    | some fs => if (fs.lookup m).isNone then (mas ρ s1).bind fun xs s2 => gcR st.length (sem (.o (.ob j) :: xs) s2) else .no
    | none => .no
  | _ => .no
/-- a new instance, then its __init__ -/
def initR (n j : Nat) : Res Rv → Res Rv
  | .ok (.d .none) s => .ok (.o (.ob j)) (s.take n)
  | .er e s => .er e (s.take n)
  | _ => .no
def mMake (cls : Str) (sem : Fs) (mas : En → Sto → Res (List Vl)) : Ev := fun ρ st => (mas ρ st).bind fun xs s => initR st.length (objsOf s).length (sem (.o (.ob (objsOf s).length) :: xs) (newO s (.ins cls [])))
section
variable {X : Cx} {C : Cn} {k j : Nat} {cls f m : Str} {p pos apos pos' : Pos} {o e value : Expr} {es : List Expr} {mo mv ma mb : Ev} {mas : En → Sto → Res (List Vl)} {sem : Fs}
/-! ### a new instance -/
theorem make_run (B : Bd k X C) {fd : FuncData} {ps : List Str} {CA f : Addr} (M : Mk X.K CA f) (hb : Binds X.K fd ps []) (G : FnC X.prog X.w X.K X.mg X.base j f fd ps sem) (hj : j + 1 ≤ k) {pins : List (Addr × Obj)} {s : Shared} {σ : L2.St} {H : Hp} {us : List Value} {vs : List V} {Q : VK} (I : Inv X pins σ H s) (r : Vals vs us)
    (h : ∀ x dx, H x = none → H dx = none → dx ≠ x → spF ⟨X.K, X.w⟩ X.mg sem (.ref x :: vs) (upd (upd H dx (.own x)) x (.ins CA dx [])) (fun v H2 => v = .non ∧ Q (.ref x) H2) fun cls d H => C.W cls d σ H) :
    wpAny (model X.prog X.w) X.A (call (.ref CA) us) (EP X pins σ Q) X.xe s := by
  obtain ⟨⟨K, w⟩, mg, W, σC⟩ := C
  obtain rfl : K = X.K := B.hK
  obtain rfl : w = X.w := B.hw
  obtain rfl : mg = X.mg := B.hm
  have hq := h (s.heap.objs.size + 1) s.heap.objs.size (I.hok.fresh (Nat.le_succ _)) (I.hok.fresh (Nat.le_refl _)) (Nat.ne_of_lt (Nat.lt_succ_self _))
  have I2 := Inv.made (C := CA) I
  have r2 : Vals (V.ref (s.heap.objs.size + 1) :: vs) (Value.ref (s.heap.objs.size + 1) :: us) := .cons rfl r
  have hl : (Value.ref (s.heap.objs.size + 1) :: us).length = ps.length := by
    rw [← r2.length]; exact G.len _ _ _ _ hq
  have rm : Rm (j + 1) X.A := B.rm.mono hj
  have rm2 : Rm j (X.A.under (.builtin "type.__call__" ⟨.ref CA :: us, []⟩)) := ⟨rm.room.make CA us [], by
    have e : (Code.builtin "type.__call__" ⟨.ref CA :: us, []⟩).isGuard = false := by first | rfl | decide | simp [Code.isGuard]
    have z : (Code.builtin "type.__call__" ⟨.ref CA :: us, []⟩).guards = [] := by
      unfold Code.guards
      rw [e]; rfl
    have := rm.gd
    simp only [Around.under, z]
    exact this⟩
  refine wpAny_call (make_map (f := f) I.kIn M.makes M.init (beq_iff_eq.mp M.fn) (codeAny_mono (G.run _ X.stack _ _ ⟨Value.ref (s.heap.objs.size + 1) :: us, []⟩ (Value.ref (s.heap.objs.size + 1) :: us) _ _ (fun cls d H => W cls d σ H) rm2
    (I2.env0.make CA us []) (by have hb' := hb _ (Value.ref (s.heap.objs.size + 1) :: us) I2.kIn (by simpa using hl); rw [List.append_nil] at hb'; exact hb') r2 hq) fun r s' hq' => ?_))
  cases r with
  | error e => exact B.ps σ pins _ _ e s' I2 hq'
  | ok fl =>
    cases fl with
    | ret u =>
      obtain ⟨v, H', I3, rv, ev, q3⟩ := I2.after hq'
      subst ev
      exact ⟨rv, ⟨V.ref (s.heap.objs.size + 1), H', I3, rfl, q3⟩⟩
    | next => exact False.elim hq'
    | brk => exact False.elim hq'
    | cont => exact False.elim hq'
end
/-! ### a new list that is an object -/
def objz (r : Rv) (s : Sto) : Res Vl := match r with
  | .n (.l xs) => .ok (.o (.ob (objsOf s).length)) (newO s (.lst (xs.map Fv.d)))
  | r => .ok (frz r) s
def mVo (m : Ev) : En → Sto → Res Vl := fun ρ st => (m ρ st).bind objz
section
variable {X : Cx} {C : Cn} {k j : Nat} {cls f m : Str} {p pos apos pos' cpos : Pos} {o e i value : Expr} {es : List Expr} {mo mv ma mb mi : Ev} {mas : En → Sto → Res (List Vl)} {sem : Fs}
/-! ### append, pop, items -/
def mAppO (mo ma : Ev) : Ev := fun ρ st => (mV mo ρ st).bind fun x s1 => match x with
  | .o (.ob j) => match olAt s1 j with
    | none => .no
    | some _ => (mV ma ρ s1).bind fun y s2 => match fvOf y, olAt s2 j with
      | some v, some xs => if xs.length < sizeLine then .ok (.d .none) (putO s2 j (.lst (xs ++ [v]))) else .no
      | _, _ => .no
  | _ => .no
def mPopO (mo : Ev) : Ev := fun ρ st => (mV mo ρ st).bind fun x s1 => match x with
  | .o (.ob j) => match olAt s1 j with
    | some xs => match xs[xs.length - 1]? with
      | some v => .ok v.rv (putO s1 j (.lst xs.dropLast))
      | none => .no
    | none => .no
  | _ => .no
theorem FvAll.dropLast {K : Kw} {F : Hp} {η : List Addr} {xs : List Fv} {us : List V} (h : FvAll K F η xs us) : FvAll K F η xs.dropLast us.dropLast := by
  rw [List.dropLast_eq_take, List.dropLast_eq_take, h.length]
  exact h.take _
/-- xs[i], xs an object -/
def mIxO (mo mi : Ev) : Ev := fun ρ st => (mV mo ρ st).bind fun x s1 => (mV mi ρ s1).bind fun y s2 => match x, y with
  | .o (.ob j), .d (.int i) => match (olAt s2 j).bind (atI · i) with
    | some v => .ok v.rv s2
    | none => .no
  | _, _ => .no
theorem FvAll.atI {K : Kw} {F : Hp} {η : List Addr} {xs : List Fv} {us : List V} {i : Int} {x : Fv} (h : FvAll K F η xs us) (e : L2.atI xs i = some x) : ∃ v, L2.atI us i = some v ∧ FvOk K F η x v := by
  unfold L2.atI at e ⊢
  rw [← h.length]
  cases q : ixN xs.length i with
  | none => rw [q] at e; cases e
  | some n =>
    rw [q] at e
    obtain ⟨v, h1, h2⟩ := h.get (i := n) (by simpa using e)
    exact ⟨v, by simpa using h1, h2⟩
end
/-! ### a method means its body -/
section
variable {P : Program} {w : World} {K : PySem.W.Frag} {mg : Str → Option Value} {base : Heap} {k : Nat} {x q cls : Str} {N ps : List Str} {sb : Sv} {st : Stmt}
theorem fn_defQ {f : Addr} {fd : FuncData} (F : FunD K x q (defArgs st) (defBody st) (defScope st) [] [] f fd) (S : FnScope N ps (defScope st))
    (body : ∀ (cdv : Value) (f : Addr) (A : Around) (outer : List Env) (s : Shared) (H : Hp) (E : XK), Bd k (cxOf (L2.CX P w) P w K mg base N q (defScope st) f cdv A outer s H E) (Cn.ofE ⟨K, w⟩ mg E) →
      PSs (cxOf (L2.CX P w) P w K mg base N q (defScope st) f cdv A outer s H E) (defBody st) (tS (Cn.ofE ⟨K, w⟩ mg E) sb)) : FnC P w K mg base (k + 1) f fd ps (bodyF N.length ps.length sb) := by
  obtain ⟨oc, od, dV, kV, doc, pm, an, cdv, ct, osl, rfl, lk, hcd, hD, hKw⟩ := F.ex
  rcases hD with ⟨_, rfl⟩ | ⟨e, _⟩
  case inr => exact absurd rfl e
  have hlen : ∀ vs H Q E, spF ⟨K, w⟩ mg (bodyF N.length ps.length sb) vs H Q E → vs.length = ps.length := fun vs H Q E ⟨args, st, μ, F, a, b, c⟩ => by
    unfold bodyF at c
    by_cases hl : args.length = ps.length
    · rw [← a.length, hl]
    · rw [if_neg hl] at c; exact False.elim c
  refine ⟨hlen, fun A outer s H args us vs Q E hr e0 hbd r hsp => ?_⟩
  have hl := hlen _ _ _ _ hsp
  have KX : K.In s.heap := e0.mod.kin.keeps fun b o e => (e0.bs b o e).1
  have lim : s.heap.NoLimit := e0.mod.nolimit.keeps fun b o e => (e0.bs b o e).1
  have hkind : ∀ y ∈ ps.zip us, (defScope st).names.lookup y.1 = some .local ∨ ((defScope st).names.lookup y.1 = some .cell ∧ ((cellsFrom (s.heap.objs.size + 1) (defScope st).names []).lookup y.1).isSome = true) := fun ⟨n, v⟩ hy =>
    (S.par n (List.of_mem_zip hy).1).imp id fun q => ⟨q, PySem.W.cellsFrom_some _ _ _ (.inl q)⟩
  refine codeAny_call_function hr.room.depth (KX _ _ lk) rfl S.co S.gen rfl (PySem.W.codeRec_of KX hcd) (hbd _ _ _ _ ?_)
  refine wpAny_newFunctionEnv_cells S.kind hkind fun env he s1 y => ?_
  subst he
  refine ⟨lim.keeps y.toInCall.keep, codeAny_func ?_⟩
  have hr2 : Rm k (A.deeper (PyProof.Rows.envOfC q (defScope st) s.heap.objs.size f cdv)) := ⟨hr.room.deeper _, hr.gd⟩
  have I : Inv (cxOf (L2.CX P w) P w K mg base N q (defScope st) f cdv A outer s H E) [] (L2.start N vs) H s1 := inv_start S hr.room.hd e0 hl r y
  have bd : Bd k (cxOf (L2.CX P w) P w K mg base N q (defScope st) f cdv A outer s H E) (Cn.ofE ⟨K, w⟩ mg E) := ⟨rfl, S.nd, passes_of rfl, fun σ pins H s e s' I c => passes_call (takes_of rfl rfl rfl rfl) (fun _ _ _ _ h => h) pins σ H s e s' I c, rfl, rfl, rfl, hr2, takes_of rfl rfl rfl rfl⟩
  obtain ⟨as, st0, μ, F0, a, b, c⟩ := hsp
  have hal : as.length = ps.length := by rw [a.length, hl]
  unfold bodyF at c
  rw [if_pos hal] at c
  refine wpAny_mono ((body cdv f A outer s H E bd).run [] s1 (L2.start N vs) H { nx := fun _ H' => Q .non H', rt := Q } I ⟨_, st0, μ, F0, start_ok N a, b, ?_⟩) (fun fl s' hs => ?_) fun e s' hs => hs
  · show PostS _ _ μ F0 H (sb (as.map some ++ List.replicate (N.length - as.length) none) st0)
    cases q : sb (as.map some ++ List.replicate (N.length - as.length) none) st0 with
    | rt r s => simp only [q] at c; exact c
    | nx ρ s => simp only [q] at c; exact fun σ' μ' F' H' x2 r2 _ => c .non μ' F' H' ⟨x2, r2, .non, fun _ e => nomatch e⟩
    | er e s => simp only [q] at c; exact c
    | bk ρ s => simp only [q] at c; exact False.elim c
    | ct ρ s => simp only [q] at c; exact False.elim c
    | no => simp only [q] at c; exact False.elim c
  · have fin : ∀ {σ' : St} {H' : Hp} {v : V} {u : Value}, Inv (cxOf (L2.CX P w) P w K mg base N q (defScope st) f cdv A outer s H E) [] σ' H' s' → RelV v u → Q v H' → CE outer P w H s Q u s' :=
      fun {σ' H' v u} J rv q => ⟨v, H', J.os, J.bare, J.base, J.hok, rv, q⟩
    cases fl with
    | ret u => obtain ⟨v, σ', H', J, rv, q⟩ := hs; exact fin J rv q
    | next => obtain ⟨σ', H', J, q⟩ := hs; exact fin (v := V.non) (u := Value.none) J rfl q
    | brk => obtain ⟨_, _, _, q⟩ := hs; exact False.elim q
    | cont => obtain ⟨_, _, _, q⟩ := hs; exact False.elim q
/-- the __init__ of a class -/
def DfI (K : PySem.W.Frag) (mg : Str → Option Value) (cls q : Str) (st : Stmt) : Prop := mg cls = some (.ref (He.ga K cls)) ∧ ∃ fd, FunD K "__init__" q (defArgs st) (defBody st) (defScope st) [] [] (He.ma K (He.ga K cls) "__init__") fd ∧ Mk K (He.ga K cls) (He.ma K (He.ga K cls) "__init__")
theorem binds_of {f : Addr} {fd : FuncData} (F : FunD K x q (defArgs st) (defBody st) (defScope st) [] [] f fd)
    (hb : ∀ (kV doc pm : Value) (an : Option Addr) (cdv ct : Value) (us : List Value), us.length = ps.length → bindArgs (PySem.W.fnOf x q (defArgs st) (defBody st) (defScope st) .none kV doc pm an cdv ct) ⟨us, []⟩ = pure (ps.zip us)) : Binds K fd ps [] := by
  obtain ⟨oc, od, dV, kV, doc, pm, an, cdv, ct, osl, rfl, lk, hcd, hD, hKw⟩ := F.ex
  rcases hD with ⟨_, rfl⟩ | ⟨e, _⟩
  · exact Binds.all fun us hl => hb kV doc pm an cdv ct us hl
  · exact absurd rfl e
theorem kn_defI (D : DfI K mg cls q st) (S : FnScope N ps (defScope st))
    (hb : ∀ (kV doc pm : Value) (an : Option Addr) (cdv ct : Value) (us : List Value), us.length = ps.length → bindArgs (PySem.W.fnOf "__init__" q (defArgs st) (defBody st) (defScope st) .none kV doc pm an cdv ct) ⟨us, []⟩ = pure (ps.zip us))
    (body : ∀ (cdv : Value) (f : Addr) (A : Around) (outer : List Env) (s : Shared) (H : Hp) (E : XK), Bd k (cxOf (L2.CX P w) P w K mg base N q (defScope st) f cdv A outer s H E) (Cn.ofE ⟨K, w⟩ mg E) →
      PSs (cxOf (L2.CX P w) P w K mg base N q (defScope st) f cdv A outer s H E) (defBody st) (tS (Cn.ofE ⟨K, w⟩ mg E) sb)) : KnC P w K mg base cls (k + 1) (bodyF N.length ps.length sb) := by
  obtain ⟨hc, fd, F, hm⟩ := D
  exact ⟨hc, fd, ps, hm, binds_of F hb, fn_defQ F S body⟩
end
/-! ### what these come to -/
section
variable {E : Er → Sto → Prop} {st : Sto} {ρ : En} {m mo ma mi : Ev} {mas : En → Sto → Res (List Vl)} {cls f : Str} {sem : Fs} {PE : Rv → Sto → Prop} {PV : Vl → Sto → Prop} {PR : En → Sto → Prop} {N B C : En → Sto → Prop} {R : Rv → Sto → Prop}
@[simp] theorem rv_d (x : PyData) : (Fv.d x).rv = .d x := rfl
@[simp] theorem rv_ob (j : Nat) : (Fv.ob j).rv = .o (.ob j) := rfl
@[simp] theorem vl_d (x : PyData) : (Fv.d x).vl = .d x := rfl
@[simp] theorem vl_ob (j : Nat) : (Fv.ob j).vl = .o (.ob j) := rfl
@[simp] theorem fvOf_d (x : PyData) : fvOf (.d x) = some (.d x) := rfl
@[simp] theorem fvOf_ob (j : Nat) : fvOf (.o (.ob j)) = some (.ob j) := rfl
def onOb (x : Vl) (P : Nat → Prop) : Prop := match x with
  | .o (.ob j) => P j
  | _ => False
@[simp] theorem onOb_ob (j : Nat) (P : Nat → Prop) : onOb (.o (.ob j)) P = P j := rfl
@[simp] theorem W_mFld : WVe E (mFld cls f mo ρ st) PE = WVe E (mo ρ st) fun r s => onOb (frz r) fun j => WO ((insAt s j cls).bind (·.lookup f)) fun y => PE y.rv s := by
  unfold mFld; rw [WV_bind, W_mV]
  congr 1; funext r s
  generalize frz r = v
  cases v with
  | o x =>
    cases x with
    | ob j => dsimp only [onOb]; cases (insAt s j cls).bind (·.lookup f) <;> rfl
    | _ => rfl
  | _ => rfl
@[simp] theorem W_gFld {x : Vl} : WVe E (gFld cls f mo x ρ st) PR = WO (fvOf x) fun y => WVe E (mo ρ st) fun r s => onOb (frz r) fun j => WO (insAt s j cls) fun fs => fs.length < 1000 ∧ PR ρ (putO s j (.ins cls (putFv f y fs))) := by
  unfold gFld
  cases fvOf x with
  | none => rfl
  | some y =>
    simp only [WO_some]
    rw [WV_bind, W_mV]
    congr 1; funext r s
    generalize frz r = v
    cases v with
    | o x =>
      cases x with
      | ob j =>
        dsimp only [onOb]
        cases insAt s j cls with
        | none => rfl
        | some fs =>
          simp only [WO_some]
          by_cases h : fs.length < 1000
          · rw [if_pos h]; simp [h]
          · rw [if_neg h]; simp [h]
      | _ => rfl
    | _ => rfl
@[simp] theorem W_mMeth {m : Str} : WVe E (mMeth cls m sem mo mas ρ st) PE = WVe E (mo ρ st) fun r s1 => onOb (frz r) fun j => WO (insAt s1 j cls) fun fs => fs.lookup m = none ∧ WVe E (mas ρ s1) fun xs s2 => WVe (fun e s3 => E e (s3.take st.length)) (sem (.o (.ob j) :: xs) s2) fun r s' => back st.length r s' PE := by
  unfold mMeth; rw [WV_bind, W_mV]
  congr 1; funext r s
  generalize frz r = v
  cases v with
  | o x =>
    cases x with
    | ob j =>
      dsimp only [onOb]
      cases insAt s j cls with
      | none => rfl
      | some fs =>
        simp only [WO_some]
        cases h : fs.lookup m with
        | some _ => simp
        | none =>
          simp only [Option.isNone_none, if_true, true_and]
          rw [WV_bind]
          congr 1; funext xs s2
          have := W_mCall (E := E) (st := st) (ρ := ρ) (mas := fun _ _ => .ok (.o (.ob j) :: xs) s2) (PE := PE) sem
          exact this
    | _ => rfl
  | _ => rfl
@[simp] theorem W_mMake : WVe E (mMake cls sem mas ρ st) PE = WVe E (mas ρ st) fun xs s => WVe (fun e s3 => E e (s3.take st.length)) (sem (.o (.ob (objsOf s).length) :: xs) (newO s (.ins cls []))) fun r s' => r = .d .none ∧ PE (.o (.ob (objsOf s).length)) (s'.take st.length) := by
  unfold mMake; rw [WV_bind]
  congr 1; funext xs s
  cases sem (.o (.ob (objsOf s).length) :: xs) (newO s (.ins cls [])) with
  | no => rfl
  | er e s => rfl
  | ok r s =>
    cases r with
    | d x => cases x <;> simp [initR, WVe]
    | _ => simp [initR, WVe]
def objd (r : Rv) (s : Sto) (P : Vl → Sto → Prop) : Prop := match r with
  | .n (.l xs) => P (.o (.ob (objsOf s).length)) (newO s (.lst (xs.map Fv.d)))
  | r => P (frz r) s
@[simp] theorem objd_l (xs : List PyData) (s : Sto) (P : Vl → Sto → Prop) : objd (.n (.l xs)) s P = P (.o (.ob (objsOf s).length)) (newO s (.lst (xs.map Fv.d))) := rfl
@[simp] theorem objd_d (x : PyData) (s : Sto) (P : Vl → Sto → Prop) : objd (.d x) s P = P (.d x) s := rfl
@[simp] theorem objd_o (x : Ob) (s : Sto) (P : Vl → Sto → Prop) : objd (.o x) s P = P (.o x) s := rfl
@[simp] theorem W_mVo : WVe E (mVo m ρ st) PV = WVe E (m ρ st) fun r s => objd r s PV := by
  unfold mVo; rw [WV_bind]
  congr 1; funext r s
  unfold objz objd
  split <;> rfl
@[simp] theorem W_mAppO : WVe E (mAppO mo ma ρ st) PE = WVe E (mo ρ st) fun r s1 => onOb (frz r) fun j => WO (olAt s1 j) fun _ => WVe E (ma ρ s1) fun r2 s2 => WO (fvOf (frz r2)) fun v => WO (olAt s2 j) fun xs => xs.length < sizeLine ∧ PE (.d .none) (putO s2 j (.lst (xs ++ [v]))) := by
  unfold mAppO; rw [WV_bind, W_mV]
  congr 1; funext r s
  generalize frz r = v
  cases v with
  | o x =>
    cases x with
    | ob j =>
      dsimp only [onOb]
      cases olAt s j with
      | none => rfl
      | some zs =>
        simp only [WO_some]
        rw [WV_bind, W_mV]
        congr 1; funext r2 s2
        cases fvOf (frz r2) with
        | none => rfl
        | some v =>
          simp only [WO_some]
          cases olAt s2 j with
          | none => rfl
          | some xs =>
            simp only [WO_some]
            by_cases h : xs.length < sizeLine
            · rw [if_pos h]; simp [h]
            · rw [if_neg h]; simp [h]
    | _ => rfl
  | _ => rfl
@[simp] theorem W_mPopO : WVe E (mPopO mo ρ st) PE = WVe E (mo ρ st) fun r s => onOb (frz r) fun j => WO (olAt s j) fun xs => WO xs[xs.length - 1]? fun v => PE v.rv (putO s j (.lst xs.dropLast)) := by
  unfold mPopO; rw [WV_bind, W_mV]
  congr 1; funext r s
  generalize frz r = v
  cases v with
  | o x =>
    cases x with
    | ob j =>
      dsimp only [onOb]
      cases olAt s j with
      | none => rfl
      | some xs => simp only [WO_some]; cases xs[xs.length - 1]? <;> rfl
    | _ => rfl
  | _ => rfl
@[simp] theorem W_mIxO : WVe E (mIxO mo mi ρ st) PE = WVe E (mo ρ st) fun r s1 => WVe E (mi ρ s1) fun r2 s2 => onOb (frz r) fun j => match frz r2 with
    | .d (.int i) => WO ((olAt s2 j).bind (atI · i)) fun v => PE v.rv s2
    | _ => False := by
  unfold mIxO; rw [WV_bind, W_mV]
  congr 1; funext r s; rw [WV_bind, W_mV]
  congr 1; funext r2 s2
  generalize frz r = v
  generalize frz r2 = u
  cases v with
  | o x =>
    cases x with
    | ob j =>
      cases u with
      | d y =>
        cases y with
        | int i => dsimp only [onOb]; cases (olAt s2 j).bind (atI · i) <;> rfl
        | _ => rfl
      | _ => rfl
    | _ => rfl
  | _ => rfl
@[simp] theorem W_sFldI {neg : Bool} {mv : Ev} : WSe E (sFldI cls f neg mo mv ρ st) N B C R = WVe E (mo ρ st) fun r s => onOb (frz r) fun j => match (insAt s j cls).bind (·.lookup f) with
    | some (.d (.int n)) => WVe E (mv ρ s) fun r2 s2 => match frz r2 with
      | .d (.int i) => WO (insAt s2 j cls) fun fs => fs.length < 1000 ∧ N ρ (putO s2 j (.ins cls (putFv f (.d (.int (if neg then n - i else n + i))) fs)))
      | _ => False
    | _ => False := by
  unfold sFldI; rw [WS_toS, W_mV]
  congr 1; funext r s
  generalize frz r = v
  cases v with
  | o x =>
    cases x with
    | ob j =>
      dsimp only [onOb]
      split
      · rename_i n e
        rw [WS_toS, W_mV]
        congr 1; funext r2 s2
        generalize frz r2 = u
        cases u with
        | d y =>
          cases y with
          | int i =>
            dsimp only
            cases insAt s2 j cls with
            | none => rfl
            | some fs =>
              simp only [WO_some]
              by_cases h : fs.length < 1000
              · rw [if_pos h]; simp [h]
              · rw [if_neg h]; simp [h]
          | _ => rfl
        | _ => rfl
      · rfl
    | _ => rfl
  | _ => rfl
end
/-! ### the heap cell under changes -/
section
variable {st t : Sto} {j j' i : Nat} {cls : Str} {fs fs' : List (Str × Fv)} {xs ys : List Fv} {x : Ho} {c : Cl} {d : PyData}
theorem insAt_of (h : (objsOf st)[j]? = some (.ins cls fs)) : insAt st j cls = some fs := by
  unfold insAt; rw [h]; exact if_pos rfl
@[simp] theorem objsOf_heap (objs : List Ho) (s : Sto) : objsOf (heapC objs :: s) = objs := objsOf_eq rfl
theorem objsOf_set0 (h : 0 < st.length) (objs : List Ho) : objsOf (st.set 0 (heapC objs)) = objs := objsOf_eq (by rw [List.getElem?_set_self h])
theorem objsOf_new (h : 0 < st.length) : objsOf (newO st x) = objsOf st ++ [x] := objsOf_set0 h _
@[simp] theorem length_putO : (putO st j x).length = st.length := by unfold putO; simp
@[simp] theorem length_newO : (newO st x).length = st.length := by unfold newO; simp
@[simp] theorem tkPut : (putO st j x ++ t).take st.length = putO st j x := List.take_left' (by simp)
@[simp] theorem tkPut0 : (putO st j x).take st.length = putO st j x := List.take_of_length_le (by simp)
@[simp] theorem tkNew : (newO st x ++ t).take st.length = newO st x := List.take_left' (by simp)
@[simp] theorem tkNew0 : (newO st x).take st.length = newO st x := List.take_of_length_le (by simp)
end
end Cp
/-! Cji: instances that never change, as data: made, their fields. -/
namespace Cp
open PySem L2
def insD (cls : Str) (kvs : List (PyData × PyData)) : PyData := .dict ((.list [], .str cls) :: kvs)
def flD : List (Str × Fv) → Option (List (PyData × PyData))
  | [] => some []
  | (f, .d x) :: r => (flD r).map ((.str f, x) :: ·)
  | (_, .ob _) :: _ => none
def FvB (n : Nat) : Fv → Prop
  | .d _ => True
  | .ob j => j < n
section
variable {K : Kw} {F H : Hp} {η : List Addr}
theorem flD_ok : ∀ {fs : List (Str × Fv)} {us : List (Str × V)} {kvs : List (PyData × PyData)}, FlOk K F η fs us → flD fs = some kvs → DqF K F us kvs
  | _, _, kvs, .nil, e => by cases e; exact .nil
  | (f, .d x) :: r, _, kvs, .cons h t, e => by
    unfold flD at e
    obtain ⟨k2, e2, rfl⟩ := Option.map_eq_some_iff.mp e
    exact .cons h (flD_ok t e2)
  | (f, .ob j) :: r, _, kvs, .cons h t, e => by cases e
theorem FvOk.lt {x : Fv} {v : V} (h : FvOk K F η x v) : FvB η.length x := by
  cases x with
  | d _ => trivial
  | ob j => obtain ⟨a, e, _⟩ := h; exact (List.getElem?_eq_some_iff.mp e).1
theorem FvOk.down {x : Fv} {v : V} {r : List Addr} (h : FvOk K F (η ++ r) x v) (b : FvB η.length x) : FvOk K F η x v := by
  cases x with
  | d _ => exact h
  | ob j =>
    obtain ⟨a, e, e2⟩ := h
    have b : j < η.length := b
    exact ⟨a, by rwa [List.getElem?_append_left b] at e, e2⟩
theorem FvAll.lt : ∀ {xs : List Fv} {us : List V}, FvAll K F η xs us → ∀ x ∈ xs, FvB η.length x
  | _, _, .nil, x, hx => by cases hx
  | _, _, .cons h t, x, hx => by
    rcases List.mem_cons.mp hx with rfl | hx
    · exact h.lt
    · exact FvAll.lt t x hx
theorem FvAll.down {r : List Addr} : ∀ {xs : List Fv} {us : List V}, FvAll K F (η ++ r) xs us → (∀ x ∈ xs, FvB η.length x) → FvAll K F η xs us
  | _, _, .nil, _ => .nil
  | _, _, .cons h t, b => .cons (h.down (b _ (List.mem_cons_self ..))) (FvAll.down t fun x hx => b x (List.mem_cons_of_mem _ hx))
theorem FlOk.lt : ∀ {fs : List (Str × Fv)} {us : List (Str × V)}, FlOk K F η fs us → ∀ x ∈ fs, FvB η.length x.2
  | _, _, .nil, x, hx => by cases hx
  | _, _, .cons h t, x, hx => by
    rcases List.mem_cons.mp hx with rfl | hx
    · exact h.lt
    · exact FlOk.lt t x hx
theorem FlOk.down {r : List Addr} : ∀ {fs : List (Str × Fv)} {us : List (Str × V)}, FlOk K F (η ++ r) fs us → (∀ x ∈ fs, FvB η.length x.2) → FlOk K F η fs us
  | _, _, .nil, _ => .nil
  | _, _, .cons h t, b => .cons (h.down (b _ (List.mem_cons_self ..))) (FlOk.down t fun x hx => b x (List.mem_cons_of_mem _ hx))
def HoB (n : Nat) : Ho → Prop
  | .ins _ fs => ∀ x ∈ fs, FvB n x.2
  | .lst xs => ∀ x ∈ xs, FvB n x
theorem HoOk.lt {a : Addr} {y : Ho} {o : HO} (h : HoOk K F η a y o) : HoB η.length y := by
  cases y with
  | ins c fs => obtain ⟨dx, us, _, _, h⟩ := h; exact h.lt
  | lst xs => obtain ⟨us, _, h⟩ := h; exact h.lt
theorem HoOk.down {r : List Addr} {a : Addr} {y : Ho} {o : HO} (h : HoOk K F (η ++ r) a y o) (b : HoB η.length y) : HoOk K F η a y o := by
  cases y with
  | ins c fs => obtain ⟨dx, us, h1, h2, h3⟩ := h; exact ⟨dx, us, h1, h2, h3.down b⟩
  | lst xs => obtain ⟨us, h1, h⟩ := h; exact ⟨us, h1, h.down b⟩
/-- the last object becomes data -/
theorem SR.dropO {l : List Addr} {x : Addr} {o : HO} {st : Sto} {objs : List Ho} {y : Ho} (r : SR K ⟨l, η ++ [x]⟩ F H (st.set 0 (heapC (objs ++ [y])))) (h0 : st[0]? = some (heapC objs)) (hn : objs.length = η.length) (hb : ∀ z ∈ objs, HoB η.length z) (hx : H x = some o) (hF : F x = none) :
    SR K ⟨l, η⟩ (upd F x o) H st := by
  have sm : Same F (upd F x o) := fun b u h => by
    rw [upd_ne (fun e => by subst e; rw [hF] at h; cases h)]; exact h
  have hl0 : 0 < st.length := (List.getElem?_eq_some_iff.mp h0).1
  have hnd := r.nd
  have hnd : (l.tail ++ (η ++ [x])).Nodup := hnd
  have hne : ∀ a ∈ l.tail, a ≠ x := fun a ha e => by
    subst e
    exact (List.nodup_append.mp hnd).2.2 a ha a (by simp) rfl
  have hne2 : ∀ a ∈ η, a ≠ x := fun a ha e => by
    subst e
    have := (List.nodup_append.mp hnd).2.1
    exact (List.nodup_append.mp this).2.2 a ha a (by simp) rfl
  have hg : ∀ i c, i ≠ 0 → st[i]? = some c → (st.set 0 (heapC (objs ++ [y])))[i]? = some c := fun i c hi e => by
    rw [List.getElem?_set_ne (Ne.symm hi)]; exact e
  have hmem : ∀ i a, i ≠ 0 → l[i]? = some a → a ∈ l.tail := fun i a hi e => by
    obtain ⟨k, rfl⟩ : ∃ k, i = k + 1 := ⟨i - 1, by omega⟩
    refine List.mem_of_getElem? (i := k) ?_
    rw [List.getElem?_tail]; exact e
  refine ⟨?_, ?_, fun i a c h1 h2 h3 => ?_, fun b u h => ?_, fun i c hi h => ?_, objs, h0, hn, fun j z hz => ?_⟩
  · show (l.tail ++ η).Nodup
    rw [← List.append_assoc] at hnd
    exact (List.nodup_append.mp hnd).1
  · have := r.len
    rw [List.length_set] at this
    exact this
  · have hi : i ≠ 0 := fun e => by
      subst e
      rw [h0] at h2; cases h2; cases h3
    have h1 : l[i]? = some a := h1
    rw [upd_ne (hne a (hmem i a hi h1))]
    exact r.sep i a c h1 (hg i c hi h2) h3
  · by_cases e : b = x
    · subst e; rw [upd_same] at h; cases h; exact hx
    · rw [upd_ne e] at h; exact r.sub b u h
  · obtain ⟨a, u, q1, q2, q3⟩ := r.cell0 i c hi (hg i c hi h)
    exact ⟨a, u, q1, q2, q3.same sm⟩
  · obtain ⟨objs2, k1, k2, k3⟩ := r.obs
    have e : objs2 = objs ++ [y] := by
      rw [List.getElem?_set_self hl0] at k1
      injection k1 with k1
      exact (heapC_inj k1).symm
    subst e
    have hj : j < objs.length := (List.getElem?_eq_some_iff.mp hz).1
    obtain ⟨a, u, q1, q2, q3, q4⟩ := k3 j z (by rw [List.getElem?_append_left hj]; exact hz)
    have q1 : (η ++ [x])[j]? = some a := q1
    rw [List.getElem?_append_left (by omega)] at q1
    refine ⟨a, u, q1, by rw [upd_ne (hne2 a (List.mem_of_getElem? q1))]; exact q2, q3, ?_⟩
    have q5 := HoOk.down q4 (hb z (List.mem_of_getElem? hz))
    exact q5.same sm
end
open Classical in
noncomputable def insR (cls : Str) (s : Sto) (n : Nat) : Res Rv → Res Rv
  | .ok (.d .none) s2 => match (objsOf s2)[(objsOf s).length]? with
    | some (.ins c fs) => (match flD fs with
      | some kvs => if c = cls ∧ s2.take n = (newO s (.ins cls fs)).take n then .ok (.d (insD cls kvs)) (s.take n) else .no
      | none => .no)
    | _ => .no
  | _ => .no
noncomputable def mMakeD (cls : Str) (sem : Fs) (mas : En → Sto → Res (List Vl)) : Ev := fun ρ st => (mas ρ st).bind fun xs s => insR cls s st.length (sem (.o (.ob (objsOf s).length) :: xs) (newO s (.ins cls [])))
section
variable {X : Cx} {C : Cn} {k j : Nat} {cls f m : Str} {p pos apos pos' : Pos} {o e value : Expr} {es : List Expr} {mo mv ma mb : Ev} {mas : En → Sto → Res (List Vl)} {sem : Fs}
theorem makeD_post {K : Kw} {Q : VK} {μ μ1 : Mu} {F H F1 H1 : Hp} {st s : Sto} {xs : List Vl} {vs : List V} {mg : Str → Option Value} {W : WX} {σ : L2.St} {σC : L2.St} (h2 : SR K μ F H st) (x1 : Ext μ F H μ1 F1 H1) (r1 : SR K μ1 F1 H1 s) (k1 : VokAll K F1 μ1 xs vs)
    (h : PostE (Cn.at ⟨K, mg, W, σC⟩ σ) Q μ F H (insR cls s st.length (sem (.o (.ob (objsOf s).length) :: xs) (newO s (.ins cls []))))) :
    ∀ x dx, H1 x = none → H1 dx = none → dx ≠ x → spF K mg sem (.ref x :: vs) (upd (upd H1 dx (.own x)) x (.ins (He.ga K.K cls) dx [])) (fun v H2 => v = .non ∧ Q (.ref x) H2) fun cls d H => W cls d σ H := by
  intro x dx hx hdx hne
  obtain ⟨objs, k0, kl, kb⟩ := id r1.obs
  have eo := objsOf_eq k0
  obtain ⟨ra, xa⟩ := r1.newly (o := .own x) hdx
  have da := r1.dead hdx
  obtain ⟨rb, xb, sm⟩ := ra.freeze xa r1.sub hdx upd_same da.1 da.2
  have hx2 : upd H1 dx (.own x) x = none := by rw [upd_ne (Ne.symm hne)]; exact hx
  obtain ⟨rc, xc⟩ := rb.newly (o := .ins (He.ga K.K cls) dx []) hx2
  have dc := rb.dead hx2
  have xbc := xb.trans xc
  have hp : HoOk K (upd F1 dx (.own x)) (μ1.η ++ [x]) x (.ins cls []) (.ins (He.ga K.K cls) dx []) := ⟨dx, [], rfl, upd_same, .nil⟩
  obtain ⟨rd, xd, hi⟩ := rc.alloc xbc k0 hx upd_same dc.1 dc.2 hp
  rw [eo] at h
  refine ⟨.o (.ob objs.length) :: xs, s.set 0 (heapC (objs ++ [.ins cls []])), μ1.obj x, upd F1 dx (.own x), .cons ⟨x, hi, rfl⟩ (VokAll.ext (C := Cn.at ⟨K, mg, W, σC⟩ σ) xd k1), rd, ?_⟩
  unfold newO at h
  rw [eo] at h
  have xx := x1.trans xd
  have hns : μ.l.length = st.length := h2.len
  cases q : sem (.o (.ob objs.length) :: xs) (s.set 0 (heapC (objs ++ [.ins cls []]))) with
  | no => rw [q] at h; exact h
  | er e s2 => rw [q] at h; exact False.elim h
  | ok r s2 =>
    rw [q] at h
    intro v μ' F' H' ou
    obtain ⟨c1, c2, c3⟩ := ou.sr.cut (xx.trans ou.ext) st.length h2.len h2.pos
    cases r with
    | d d =>
      cases d with
      | none =>
        cases (show Dq K F' v .none from ou.rok)
        refine ⟨rfl, ?_⟩
        unfold insR at h
        simp only [eo] at h
        cases q2 : (objsOf s2)[objs.length]? with
        | none => rw [q2] at h; exact False.elim h
        | some y =>
          rw [q2] at h
          cases y with
          | lst _ => exact False.elim h
          | ins c fs =>
            dsimp only at h
            cases q3 : flD fs with
            | none => rw [q3] at h; exact False.elim h
            | some kvs =>
              rw [q3] at h
              dsimp only at h
              by_cases hh : c = cls ∧ s2.take st.length = (newO s (.ins cls fs)).take st.length
              · rw [if_pos hh] at h
                obtain ⟨rfl, hs2⟩ := hh
                have hsl : st.length ≤ s.length := by
                  obtain ⟨r, e⟩ := x1.pre
                  have h3 := r1.len
                  rw [e, List.length_append] at h3
                  omega
                have h0s : (s.take st.length)[0]? = some (heapC objs) := by
                  rw [List.getElem?_take_of_lt (by have := h2.pos; have := h2.len; omega)]; exact k0
                have hs3 : s2.take st.length = (s.take st.length).set 0 (heapC (objs ++ [.ins c fs])) := by
                  rw [hs2]
                  unfold newO
                  rw [eo, List.take_set]
                obtain ⟨r', e'⟩ := ou.ext.preη
                obtain ⟨objs2, w1, w2, w3⟩ := id c1.obs
                rw [hs3, List.getElem?_set_self (List.getElem?_eq_some_iff.mp h0s).1] at w1
                injection w1 with w1
                have w1 := heapC_inj w1
                subst w1
                have e' : μ'.η = (μ1.η ++ [x]) ++ r' := e'
                have w2 : (objs ++ [Ho.ins c fs]).length = μ'.η.length := w2
                have er : r' = [] := by
                  rw [e'] at w2
                  simp only [List.length_append, List.length_singleton] at w2
                  exact List.eq_nil_of_length_eq_zero (by omega)
                subst er
                rw [List.append_nil] at e'
                obtain ⟨a, o, z1, z2, z3, dx', us, z4, z5, z6⟩ := w3 objs.length (.ins c fs) (by simp)
                have z1 : μ'.η[objs.length]? = some a := z1
                rw [e', kl, List.getElem?_append_right (Nat.le_refl _)] at z1
                have ea : a = x := by simpa using z1.symm
                subst ea
                subst z4
                have hdq := flD_ok z6 q3
                have hr : SR K ⟨(μ'.take st.length).l, μ1.η ++ [a]⟩ F' H' ((s.take st.length).set 0 (heapC (objs ++ [.ins c fs]))) := by
                  rw [← hs3, ← e']
                  exact c1
                have sm2 : Same F' (upd F' a (.ins (He.ga K.K c) dx' us)) := fun b u hb => by
                  rw [upd_ne (fun e => by subst e; rw [z2] at hb; cases hb)]; exact hb
                have hfin := hr.dropO h0s kl (fun y hy => by
                  obtain ⟨i, hi, e⟩ := List.getElem_of_mem hy
                  obtain ⟨b, ob, _, _, _, hok⟩ := kb i y (by rw [List.getElem?_eq_getElem hi, e])
                  exact hok.lt) z3 z2
                refine h (.ref a) ⟨(μ'.take st.length).l, μ1.η⟩ _ H' ⟨⟨c2.same.trans sm2, c2.pre, x1.preη, c2.fr, c2.dom, fun b u hb => ?_, fun b hb => ?_⟩, hfin, ?_, fun _ e => nomatch e⟩
                · by_cases e : b = a
                  · subst e; exact .inr (.inl (x1.dom _ hx))
                  · rw [upd_ne e] at hb; exact c2.nF b u hb
                · refine c2.nC b ?_
                  rcases hb with hb | hb
                  · exact .inl hb
                  · refine .inr ?_
                    show b ∈ μ'.η
                    rw [e']
                    exact List.mem_append_left _ hb
                · exact .ins upd_same (sm2 _ _ z5) (hdq.same sm2)
              · rw [if_neg hh] at h; exact False.elim h
      | _ => exact False.elim h
    | _ => exact False.elim h
theorem s_makeD (B : Bd k X C) (G : KnC X.prog X.w X.K X.mg X.base cls j sem) (hj : j + 1 ≤ k) (hg : Gl X cls) (ha : PA X (e :: es) (tAs C mas)) (hdb : (cls == ("__debug__" : Str)) = false := by decide)
    (he : starEach (e :: es) X.env = (false, eval e X.env) :: starEach es X.env := by rfl) (hpl : (backTo pos (starEach es X.env)).any (·.1) = false := by rfl) : PE X (.Call (.Name cls p) (e :: es) [] pos) (tM C (mMakeD cls sem mas)) := by
  obtain ⟨hm, fd, ps, M, hb, G⟩ := G
  obtain ⟨⟨K, w⟩, mg, W, σC⟩ := C
  obtain rfl : K = X.K := B.hK
  obtain rfl : w = X.w := B.hw
  obtain rfl : mg = X.mg := B.hm
  refine ⟨fun pins s σ H Q I ⟨ρ, st, μ, F, h1, h2, h3⟩ => ?_⟩
  refine wpAny_Call_Name_kw (ld_glob I hg hm ?_ hdb)
  refine PySem.W.callWith_K (h₀ := X.base) I.ok.mod.kin M.kp (thn (ha.run pos pins s σ H (fun vs H1 => ∀ x dx, H1 x = none → H1 dx = none → dx ≠ x → spF ⟨X.K, X.w⟩ X.mg sem (.ref x :: vs) (upd (upd H1 dx (.own x)) x (.ins (He.ga X.K cls) dx [])) (fun v H2 => v = .non ∧ Q (.ref x) H2) fun cls d H => W cls d σ H) I ⟨ρ, st, μ, F, h1, h2, Post.bindA0 h3 fun xs s1 vs μ1 F1 H1 x1 r1 k1 h4 => makeD_post h2 x1 r1 k1 h4⟩) fun us s1 ⟨vs, H1, I1, r, q⟩ => ⟨I1.kIn, ?_⟩) he hpl
  exact make_run B M hb G hj I1 r q
/-! ### fields of data -/
def fldD (f : Str) : List (PyData × PyData) → Option PyData
  | [] => none
  | (.str g, d) :: r => if f = g then some d else fldD f r
  | _ :: _ => none
def fFldD (cls f : Str) (d : PyData) : Option Rv := match d with
  | .dict ((.list [], .str c) :: kvs) => if c = cls then (fldD f kvs).map .d else none
  | _ => none
theorem fldD_ok {K : Kw} {F : Hp} {f : Str} : ∀ {fs : List (Str × V)} {kvs : List (PyData × PyData)} {d : PyData}, DqF K F fs kvs → fldD f kvs = some d → ∃ v, fs.lookup f = some v ∧ Dq K F v d
  | _, _, _, .nil, e => by cases e
  | (g, v) :: fs, _, d, .cons h t, e => by
    unfold fldD at e
    rw [List.lookup_cons]
    by_cases q : f = g
    · subst q
      rw [if_pos rfl] at e
      cases e
      rw [beq_self_eq_true]
      exact ⟨v, rfl, h⟩
    · rw [if_neg q] at e
      rw [beq_eq_false_iff_ne.mpr q]
      exact fldD_ok t e
def mFldD (cls f : Str) (mo : Ev) : Ev := fun ρ st => (mV mo ρ st).bind fun x s => match x with
  | .d d => (match fFldD cls f d with
    | some y => .ok y s
    | none => .no)
  | _ => .no
theorem s_fldD (hK : C.K.K = X.K) (c : Cls X.K (He.ga X.K cls)) (n : NoAttr X.K (He.ga X.K cls) f) (ho : PE X o (tM C mo)) (hb : attributeBase o f X.env (eval o X.env) = eval o X.env := by rfl) : PE X (.Attribute o f pos) (tM C (mFldD cls f mo)) :=
  (pe_fld (pv_frz ho) hb).imp fun σ H Q ⟨ρ, st, μ, F, h1, h2, h3⟩ => ⟨ρ, st, μ, F, h1, h2, Post.bindV gE_lat h3 fun x s v μ1 F1 H1 x1 r1 k1 h4 => by
    cases x with
    | d d =>
      dsimp only at h4
      unfold fFldD at h4
      split at h4
      · rename_i y e
        split at e
        · rename_i c' kvs
          by_cases hc : c' = cls
          · subst hc
            rw [if_pos rfl] at e
            obtain ⟨d2, e2, rfl⟩ := Option.map_eq_some_iff.mp e
            have k1 : Dq C.K F1 v (.dict ((.list [], .str c') :: kvs)) := k1
            generalize hk : ((PyData.list [], PyData.str c') :: kvs) = kv at k1
            cases k1 with
            | dic _ q =>
              cases q with
              | nil => cases hk
              | @cons k v ws d kvs h r =>
                injection hk with hk _
                injection hk with hk _
                cases k <;> cases hk
            | dig _ q _ _ =>
              cases q with
              | nil => cases hk
              | cons g e2 _ _ _ =>
                injection hk with hk _
                injection hk with hk _
                subst hk
                cases e2
            | ins g1 g2 g3 =>
              rename_i a dx c2 us kv2
              injection hk with hk hk2
              injection hk with _ hk
              injection hk with hk
              subst hk
              subst hk2
              obtain ⟨w, w1, w2⟩ := fldD_ok g3 e2
              refine ⟨a, He.ga X.K c', dx, us, w, rfl, ?_, c, n, w1, fin_d r1 h4 w2⟩
              have := r1.sub _ _ g1
              rw [show C.K.K = X.K from hK] at this
              exact this
          · rw [if_neg hc] at e; cases e
        · cases e
      · exact False.elim h4
    | _ => exact False.elim h4⟩
end
section
variable {E : Er → Sto → Prop} {ρ : En} {st : Sto} {PE : Rv → Sto → Prop} {cls f : Str} {mo : Ev} {mas : En → Sto → Res (List Vl)} {sem : Fs}
@[simp] theorem W_mFldD : WVe E (mFldD cls f mo ρ st) PE = WVe E (mo ρ st) fun r s => (match frz r with
    | .d d => WO (fFldD cls f d) fun y => PE y s
    | _ => False) := by
  unfold mFldD; rw [WV_bind, W_mV]
  congr 1; funext r s
  generalize frz r = v
  cases v with
  | d d => dsimp only; cases fFldD cls f d <;> rfl
  | _ => rfl
end
end Cp
/-! Ckz: list(zip(xs, ys)) of two lists. -/
namespace Cp
open PySem PySem.W PySem.Calls PyProof.Rows L2
/-- the pairs lie there, one after the other, above lo -/
structure ZilG (xs ys : Array Value) (lo : Addr) (h : Heap) (as : List Addr) : Prop where
  rise : as.Pairwise (· < ·)
  above : ∀ a ∈ as, lo < a
  pairs : ∀ (j : Nat) (a : Addr), as[j]? = some a → ∃ x y, xs[j]? = some x ∧ ys[j]? = some y ∧ h.get? a = some { cls := .type "tuple", data := .seq #[x, y] }
theorem ZilG.there {xs ys : Array Value} {lo : Addr} {h : Heap} {as : List Addr} (g : ZilG xs ys lo h as) {a : Addr} (ha : a ∈ as) : a < h.objs.size := by
  obtain ⟨j, hj⟩ := List.mem_iff_getElem?.mp ha
  obtain ⟨_, _, _, _, e⟩ := g.pairs j a hj
  exact Heap.lt_size e
def ZSt (h : Heap) (N : Nat) (l1 l2 : Addr) (i : Nat) : Prop :=
  IsPair h (N + 2) (.ref N) (.ref (N + 1)) ∧ h.IsListIter N l1 i ∧ h.IsListIter (N + 1) l2 i ∧
    ((∃ a b, IsZip h (N + 4) (N + 2) (N + 3) .none ∧ IsPair h (N + 3) a b) ∨ ∃ T f oT, IsZipHeld h (N + 4) (N + 2) (N + 3) T f ∧ h.get? T = some oT ∧ N + 5 < T)
theorem ZSt.keep {h h' : Heap} {N : Nat} {l1 l2 : Addr} {i : Nat} (z : ZSt h N l1 l2 i) (k : ∀ b o, b ≠ N + 5 → h.get? b = some o → h'.get? b = some o) : ZSt h' N l1 l2 i := by
  obtain ⟨a1, a2, a3, a4⟩ := z
  refine ⟨k _ _ (by omega) a1, a2.at fun o e => k _ o (by omega) e, a3.at fun o e => k _ o (by omega) e, ?_⟩
  rcases a4 with ⟨a, b, c1, c2⟩ | ⟨T, f, oT, c1, c2, c3⟩
  · exact .inl ⟨a, b, k _ _ (by omega) c1, k _ _ (by omega) c2⟩
  · exact .inr ⟨T, f, oT, k _ _ (by omega) c1, k _ _ (by omega) c2, c3⟩
/-! ### the rule -/
/-! ### by values -/
section
variable {X : Cx} {C : Cn} {a b : Expr} {mas : En → Sto → Res (List Vl)} {p p2 q pos : Pos}
def mLZ (mas : En → Sto → Res (List Vl)) : Ev := fun ρ st => (mas ρ st).bind fun vs s => match vs with
  | [.d (.list xs), .d (.list ys)] => .ok (.n (.l (zipF xs ys))) s
  | _ => .no
@[simp] theorem W_mLZ {ρ : En} {st : Sto} {E : Er → Sto → Prop} {P : Rv → Sto → Prop} : WVe E (mLZ mas ρ st) P = WVe E (mas ρ st) fun vs s => match vs with
  | [.d (.list xs), .d (.list ys)] => P (.n (.l (zipF xs ys))) s
  | _ => False := by
  unfold mLZ
  rw [WV_bind]
  congr 1
  funext vs s
  split <;> rfl
end
end Cp
/-! Csk: sorted(xs, key=f), f an own def. -/
namespace Cp
open PySem PySem.W PySem.Calls PyProof.Rows L2
section
variable {X : Cx} {pins : List (Addr × Obj)} {σ : L2.St} {H H0 : Hp} {s s0 : Shared}
/-- an object that stands there, from now on tracked -/
theorem inv_adopt {a : Addr} {o : HO} (I : L2.Inv X pins σ H s) (f : FpOk X pins H a) (new : ObjOk X.prog X.w (upd H a o) s.heap a o) : L2.Inv X pins σ (upd H a o) s := by
  obtain ⟨hn, f1, f2, f3, f4, f5⟩ := f
  have ne : ∀ b u, H b = some u → b ≠ a := fun b u e z => by subst z; rw [hn] at e; cases e
  refine { I with base := ⟨I.base.keep, I.base.slot, fun b u q n hx => ?_, I.base.there, fun b xs q => ?_, fun b u v q => ?_, fun b ps q => ?_⟩, free := ?_, freeC := fun x c e => ?_, pin := fun p hp => ?_, hok := I.hok.laidN (fun _ _ q => q) hn new }
  · have hb : b ≠ a := fun z => by
      subst z
      rcases f3 with z | z
      · exact hx z
      · exact absurd (Heap.lt_size q) (Nat.not_lt.mpr z)
    rw [upd_ne hb]; exact I.base.free b u q n hx
  · have e := I.base.tups b xs q
    rw [upd_ne (ne _ _ e)]; exact e
  · have e := I.base.frzs b u v q
    rw [upd_ne (ne _ _ e)]; exact e
  · obtain ⟨more, e⟩ := I.base.tbls b ps q
    exact ⟨more, by rw [upd_ne (ne _ _ e)]; exact e⟩
  · rw [upd_ne (Ne.symm f1)]; exact I.free
  · rw [upd_ne (f4 x c e)]; exact I.freeC x c e
  · obtain ⟨p1, p2, p3, p4, p5⟩ := I.pin p hp
    exact ⟨p1, by rw [upd_ne (f5 p hp)]; exact p2, p3, p4, p5⟩
theorem fpOk_at {H' : Hp} {b : Addr} (f : FpOk X pins H b) (n : H' b = none) : FpOk X pins H' b := ⟨n, f.2⟩
/-- two objects pinned -/
theorem inv_pin2 {a b : Addr} {oa ob : Obj} (I : L2.Inv X pins σ H s) (fa : FpOk X pins H a) (fb : FpOk X pins H b) (ha : s.heap.get? a = some oa) (hb : s.heap.get? b = some ob) (ca : ∀ v, oa.data ≠ .cell v) (cb : ∀ v, ob.data ≠ .cell v) :
    L2.Inv X (pins ++ [(a, oa), (b, ob)]) σ H s := I.pins_of fun p hp => by
  rcases List.mem_append.mp hp with hp | hp
  · exact I.pin p (List.mem_append_right _ hp)
  · rcases List.mem_cons.mp hp with rfl | hp
    · exact ⟨ha, fa.1, fa.2.1, fa.2.2.1, ca⟩
    · rw [List.mem_singleton.mp hp]
      exact ⟨hb, fb.1, fb.2.1, fb.2.2.1, cb⟩
theorem vals_snoc {y : V} {v : Value} (r : RelV y v) : ∀ {vs : List V} {us : List Value}, Vals vs us → Vals (vs ++ [y]) (us ++ [v])
  | _, _, .nil => .cons r .nil
  | _, _, .cons h t => .cons h (vals_snoc r t)
theorem sk_rest (I0 : L2.Inv X pins σ H0 s0) {A : Around} {a kS : Addr} {e1 : Nat} {f : Value} {vs : List Value} {kz : List PyData} {G : Nat → List V → Hp → Prop} {P : PySem.Fin → Shared → Prop} {E : Value → Shared → Prop}
    (ha0 : s0.heap.objs.size ≤ a) (hk0 : s0.heap.objs.size ≤ kS) (hka : kS ≠ a) (I : L2.Inv X pins σ H s) (na0 : H a = none) (nk0 : H kS = none)
    (nk : s.heap.get? kS = some (seqObj "list" #[] 0)) (na : s.heap.get? a = some (seqObj "list" #[] e1)) (hlen : kz.length = vs.length) (hZ : vs.length ≤ sizeLine) (hal : AllAlike kz) (hsk : Sortable kz) (hu : ∀ d, d ∈ kz → A.units + d.depth < cLine)
    (g0 : G 0 [] H) (hG : ∀ H' ks, G vs.length ks H' → ∃ K' : Kw, DqAll K' H' ks kz)
    (turn : ∀ (i : Nat) (v : Value) (ks : List V) (H' : Hp) (s' : Shared) (pins' : List (Addr × Obj)), vs[i]? = some v → G i ks H' → L2.Inv X pins' σ H' s' →
      wpAny (model X.prog X.w) A (call f [v]) (EP X pins' σ fun x H'' => G (i + 1) (ks ++ [x]) H'') (fun _ _ => False) s')
    (h : ∀ (s' : Shared) (H' : Hp) (out : List Value) (c : Nat) (ks : List V), L2.Inv X pins σ H' s' → s'.heap.get? a = some (seqObj "list" (List.toArray out) c) → H' a = none → G vs.length ks H' → KeyedOut false kz vs out → P (.done (.ret .none)) s') :
    wpAny (model X.prog X.w) A (ksk_rest a f false vs.toArray e1 (.ref kS)) P E s := by
  have fa : ∀ {H' : Hp}, H' a = none → FpOk X pins H' a := fun n => I0.fpOk ha0 n
  have fk : ∀ {H' : Hp}, H' kS = none → FpOk X pins H' kS := fun n => I0.fpOk hk0 n
  unfold ksk_rest
  refine wpAny_bind (wpAny_rule ?_)
  first
    | rw [List.forIn_toArray]
    | (rw [← Array.forIn_toList]; simp only [List.toList_toArray])
    | rw [← Array.forIn_toList]
  refine wpAny_bind (ksk_fold (fun i s' => ∃ H' kA e ks, L2.Inv X pins σ H' s' ∧ H' a = none ∧ H' kS = none ∧ s'.heap.get? kS = some (seqObj "list" kA e) ∧ s'.heap.get? a = some (seqObj "list" #[] e1) ∧ Vals ks kA.toList ∧ kA.size = i ∧ G i ks H') vs 0 s
    ⟨H, #[], 0, [], I, na0, nk0, nk, na, .nil, rfl, g0⟩ ?step ?done)
  case step =>
    rintro j x s' hx ⟨H', kA, e, ks, I', n1, n2, nk', na', hv, hs, hg⟩
    simp only [Nat.zero_add] at hs hg ⊢
    have hj : j < vs.length := (List.getElem?_eq_some_iff.mp hx).1
    have Ip := inv_pin2 I' (fa n1) (fk n2) na' nk' (fun v z => nomatch z) (fun v z => nomatch z)
    refine wpAny_bind (wpAny_attempt (wpAny_mono (turn j x ks H' s' _ hx hg Ip) (fun v s'' he => ?_) fun _ _ hF => hF.elim))
    obtain ⟨y, H'', I'', ry, gy⟩ := he
    obtain ⟨na2, m1, _⟩ := I''.pin (a, seqObj "list" #[] e1) (by simp)
    obtain ⟨nk2, m2, _⟩ := I''.pin (kS, seqObj "list" kA e) (by simp)
    have Iu : L2.Inv X pins σ H'' s'' := I''.unpinned
    try dsimp only at na2 m1 nk2 m2 ⊢
    have s1 := Heap.SameBut.update s''.heap kS (Obj.mapSeq (·.push v))
    obtain ⟨c2, hc2⟩ : ∃ c2, (s''.heap.update kS (Obj.mapSeq (·.push v))).get? kS = some (seqObj "list" (kA.push v) c2) := ⟨_, get?_update_seq nk2 (·.push v)⟩
    refine wpAny_bind (listUpdate_at nk2 rfl ?_ (by rw [hs]; omega) (Nat.le_trans (Nat.le_of_eq (Array.size_push ..)) (by omega)))
    refine wpAny_pure ⟨rfl, H'', kA.push v, c2, ks ++ [y], ?_, m1, m2, hc2, (s1.2 a hka.symm).trans na2, ?_, by rw [Array.size_push, hs], gy⟩
    · exact Iu.turnedL (h' := s''.heap.update kS (Obj.mapSeq (·.push v))) (t' := s''.toks) (ch := [kS]) (fun b o hb q => (s1.2 b (by simpa using hb)).trans q) fun b hb => by rw [List.mem_singleton.mp hb]; exact fk m2
    · rw [Array.toList_push]
      exact vals_snoc ry hv
  case done =>
    rintro s' ⟨H', kA, e, ks, I', n1, n2, nk', na', hv, hs, hg⟩
    simp only [Nat.zero_add] at hs hg
    obtain ⟨K', hd⟩ := hG H' ks hg
    have hk' : EachIs (fun v k => ∃ as, Reads s'.heap v k as) kA.toList kz := (EachIs.memd (each_dq hd hv)).mono fun v d ⟨⟨x, h1, h2⟩, hm⟩ => h2.reads I' h1 (alike_noDict d (hal d hm d hm))
    try dsimp only
    refine wpAny_bind (listItems_at nk' rfl ?_)
    obtain ⟨G1, q1, q2⟩ := restrict s'.heap fun b => decide (b ≠ kS)
    have gk : ∀ b o, G1.get? b = some o → s'.heap.get? b = some o := fun b o e => by
      by_cases hb : b = kS
      · subst hb
        rw [q2 b (by simp)] at e
        cases e
      · rw [← q1 b (decide_eq_true hb)]; exact e
    have gn : G1.get? kS = none := q2 kS (by simp)
    refine keyH_end (κ := dataKind s'.heap kz) (h₁ := G1) (fun b o _ e => gk b o e) gn nk' na' hka (SortsAt.data (s := s') hk' hal hsk hu) (by rw [hs]) hZ fun h3 tk3 c k3 n3 => ?_
    have I3 : L2.Inv X pins σ H' { s' with heap := h3, toks := tk3 } := I'.turnedL (ch := [a, kS]) (fun b o hb q => by
      have hb' : b ≠ a ∧ b ≠ kS := by simpa using hb
      exact k3 b o hb'.1 (by rw [q1 b (decide_eq_true hb'.2)]; exact q)) fun b hb => by
        rcases List.mem_cons.mp hb with rfl | hb
        · exact fa n1
        · rw [List.mem_singleton.mp hb]; exact fk n2
    exact h _ H' _ c ks I3 n3 n1 hg ⟨s'.heap, kA.toList, hal, rfl, hk'⟩
theorem sk_tree {A : Around} {a : Addr} {n : Nat} {f : Value} {vs : List Value} {kz : List PyData} {G : Nat → List V → Hp → Prop} {P : PySem.Fin → Shared → Prop} {E : Value → Shared → Prop}
    (I0 : L2.Inv X pins σ H0 s0) (ha0 : s0.heap.objs.size ≤ a) (hs0 : s0.heap.objs.size ≤ s.heap.objs.size) (I : L2.Inv X pins σ H s) (na0 : H a = none)
    (ho : s.heap.get? a = some (seqObj "list" vs.toArray n)) (hlen : kz.length = vs.length) (hZ : vs.length ≤ sizeLine) (hal : AllAlike kz) (hsk : Sortable kz) (hu : ∀ d, d ∈ kz → A.units + d.depth < cLine)
    (g0 : G 0 [] H) (hG : ∀ H' ks, G vs.length ks H' → ∃ K' : Kw, DqAll K' H' ks kz)
    (turn : ∀ (i : Nat) (v : Value) (ks : List V) (H' : Hp) (s' : Shared) (pins' : List (Addr × Obj)), vs[i]? = some v → G i ks H' → L2.Inv X pins' σ H' s' →
      wpAny (model X.prog X.w) A (call f [v]) (EP X pins' σ fun x H'' => G (i + 1) (ks ++ [x]) H'') (fun _ _ => False) s')
    (h : ∀ (s' : Shared) (H' : Hp) (out : List Value) (c : Nat) (ks : List V), L2.Inv X pins σ H' s' → s'.heap.get? a = some (seqObj "list" (List.toArray out) c) → H' a = none → G vs.length ks H' → KeyedOut false kz vs out → P (.done (.ret .none)) s') :
    wpAny (model X.prog X.w) A (ksk_tree a f false) P E s := by
  have ha : a < s.heap.objs.size := Heap.lt_size ho
  obtain ⟨e1, ho1⟩ : ∃ e1, (s.heap.update a (Obj.mapSeq fun _ => (#[] : Array Value))).get? a = some (seqObj "list" #[] e1) := ⟨_, get?_update_seq ho fun _ => #[]⟩
  have hkS : ((s.heap.update a (Obj.mapSeq fun _ => (#[] : Array Value))).push (seqObj "tuple" vs.toArray 0)).objs.size = s.heap.objs.size + 1 := by rw [size_push', Heap.size_update]
  unfold ksk_tree
  refine wpAny_bind (listItems_at ho rfl ?_)
  refine wpAny_bind (listUpdate_at ho rfl ?_ (by rw [List.size_toArray]; exact hZ) (Nat.zero_le _))
  refine wpAny_bind (seqEpoch_at ho1 rfl ?_)
  refine wpAny_bind (wpAny_newTuple ?_ (by show vs.length ≤ _; exact hZ))
  refine wpAny_bind (wpAny_newList ?_ (Nat.zero_le _))
  refine wpAny_holding ?_
  have kp : KeepsBut a s.heap (sortingHeap s.heap a vs) := fun b o hb q => sortingHeap_old hb q
  have hk0 : s0.heap.objs.size ≤ s.heap.objs.size + 1 := Nat.le_succ_of_le hs0
  have I2 : L2.Inv X pins σ H { s with heap := sortingHeap s.heap a vs, toks := s.toks } := I.turnedL (ch := [a]) (fun b o hb q => kp b o (by simpa using hb) q) fun b hb => by
    rw [List.mem_singleton.mp hb]
    exact fpOk_at (I0.fpOk ha0 (H' := H) na0) na0
  refine sk_rest I0 (s := { s with heap := ((s.heap.update a (Obj.mapSeq fun _ => (#[] : Array Value))).push (seqObj "tuple" vs.toArray 0)).push (seqObj "list" #[] 0) }) (kS := ((s.heap.update a (Obj.mapSeq fun _ => (#[] : Array Value))).push (seqObj "tuple" vs.toArray 0)).objs.size)
    ha0 (by rw [hkS]; exact hk0) (by rw [hkS]; exact Nat.ne_of_gt (Nat.lt_succ_of_lt ha)) I2 na0 (by rw [hkS]; exact I.hok.fresh (Nat.le_succ _)) (Heap.get?_push_size _ rfl) (Heap.get?_push_of_some _ (Heap.get?_push_of_some _ ho1)) hlen hZ hal hsk hu g0 hG turn h
end
/-! ### what sorted by a key means -/
open Classical in
/-- the keys of some data, by a def that leaves the cells alone -/
noncomputable def keysOf (sem : Fs) (st : Sto) : List PyData → Option (List PyData)
  | [] => some []
  | d :: ds => match sem [.d d] st with
    | .ok (.d k) s2 => if s2.take st.length = st then match keysOf sem st ds with
      | some ks => some (k :: ks)
      | none => none
      else none
    | _ => none
structure Srtk (ks : List PyData) : Prop where
  al : AllAlike ks
  so : Sortable ks
  dp : ∀ d ∈ ks, d.depth ≤ 60
def sortK (ds ks : List PyData) : List PyData := ((ds.zip ks).mergeSort (dataLe false Prod.snd)).map Prod.fst
theorem keysOf_get {sem : Fs} {st : Sto} : ∀ {ds ks : List PyData}, keysOf sem st ds = some ks → ks.length = ds.length ∧ ∀ (i : Nat) (d : PyData), ds[i]? = some d → ∃ k s2, ks[i]? = some k ∧ sem [.d d] st = .ok (.d k) s2 ∧ s2.take st.length = st
  | [], ks, e => by cases e; exact ⟨rfl, fun i d h => by simp at h⟩
  | d :: ds, ks, e => by
    unfold keysOf at e
    split at e
    · rename_i k s2 hs
      split at e
      · rename_i ht
        split at e
        · rename_i ks' hk
          cases e
          obtain ⟨h1, h2⟩ := keysOf_get hk
          refine ⟨by simp [h1], fun i d' h => ?_⟩
          cases i with
          | zero => simp at h; subst h; exact ⟨k, s2, rfl, hs, ht⟩
          | succ i => obtain ⟨k', s3, e1, e2, e3⟩ := h2 i d' (by simpa using h); exact ⟨k', s3, by simpa using e1, e2, e3⟩
        · cases e
      · cases e
    · cases e
theorem DqAll.snoc {K : Kw} {F : Hp} {x : V} {d : PyData} {xs : List V} {ds : List PyData} (h : DqAll K F xs ds) (hx : Dq K F x d) : DqAll K F (xs ++ [x]) (ds ++ [d]) := h.app (.cons hx .nil)
section
variable {X : Cx} {C : Cn} {k j : Nat} {x : Str}
theorem each_fst {R : Value → PyData → Prop} : ∀ {out : List Value} {ps : List (PyData × PyData)}, EachIs (fun v p => R v p.1) out ps → EachIs R out (ps.map Prod.fst)
  | _, _, .nil => .nil
  | _, _, .cons h r => .cons h (each_fst r)
theorem each_zip {R : Value → PyData → Prop} : ∀ {out : List Value} {ds ks : List PyData}, ks.length = ds.length → EachIs R out ds → EachIs (fun v p => R v p.1) out (ds.zip ks)
  | _, [], [], _, .nil => .nil
  | _, _ :: _, _ :: _, e, .cons h r => .cons h (each_zip (by simpa using e) r)
end
/-! ### weakest precondition -/
end Cp
/-! Cit: sorted(d.items()), list(d.items()); pairs of unlike keys sorted. -/
namespace Cp
open PySem L2
section
open PySem.W PyProof.Rows
variable {prog : Program} {w : World} {A : Around} {E : Value → Shared → Prop} {s : Shared}
/-- pairs whose keys can be ordered; equal keys have the same value -/
def PairS (ds : List PyData) : Prop := (∀ d ∈ ds, ∃ k r, d = .tuple [k, r] ∧ alike r r = true ∧ k ≠ .none) ∧ ∀ k r k' r', PyData.tuple [k, r] ∈ ds → PyData.tuple [k', r'] ∈ ds → alike k k' = true ∧ (PyData.eqv k k' = true → r = r')
theorem PairS.uniq {ds : List PyData} (h : PairS ds) {hp : Heap} {v : Value} {d d' : PyData} {as as' : List Addr} (m : d ∈ ds) (m' : d' ∈ ds) (r1 : Reads hp v d as) (r2 : Reads hp v d' as') : d = d' := by
  obtain ⟨k, r, rfl, _⟩ := h.1 d m
  obtain ⟨k', r', rfl, _⟩ := h.1 d' m'
  obtain ⟨ha, hb⟩ := h.2 k r k' r' m m'
  cases r1 with
  | @tuple a o xs n _ _ ho hc hd hr =>
    cases r2 with
    | @tuple a' o' xs' n' _ _ ho' hc' hd' hr' =>
      have eo : o = o' := Option.some.inj (ho.symm.trans ho')
      subst eo
      rw [hd] at hd'
      injection hd' with e1 e2
      subst e1
      generalize xs.toList = l at hr hr'
      cases hr with
      | cons p1 p2 =>
        cases hr' with
        | cons q1 q2 =>
          have ek := alike_unique _ _ _ _ _ ha p1 q1
          subst ek
          have := hb (eqv_refl_alike k ha)
          subst this
          rfl
theorem pairKind_some {h : Heap} {ds : List PyData} (hal : PairS ds) {v : Value} {d : PyData} {as : List Addr} (hd : d ∈ ds) (r : Reads h v d as) : (dataKind h ds).keyOf v = some (keyToks d) := by
  have q : ∃ d, d ∈ ds ∧ ∃ as, Reads h v d as := ⟨d, hd, as, r⟩
  have e : (dataKind h ds).keyOf v = some (keyToks q.choose) := by
    show (open Classical in if q : ∃ d, d ∈ ds ∧ ∃ as, Reads h v d as then some (keyToks q.choose) else none) = _
    rw [dif_pos q]
  obtain ⟨h1, as', h2⟩ := q.choose_spec
  rw [e, hal.uniq h1 hd h2 r]
theorem SortsAt.pairs {vs : List Value} {ds : List PyData} (e : EachIs (fun v d => ∃ as, Reads s.heap v d as) vs ds) (hal : PairS ds) (hu : ∀ d, d ∈ ds → A.units + d.depth < cLine) : SortsAt prog w A s (dataKind s.heap ds) vs := by
  have room : ∀ {d d' : PyData}, d ∈ ds → A.units + min d.depth d'.depth < cLine := fun {d d'} hd => Nat.lt_of_le_of_lt (Nat.add_le_add_left (Nat.min_le_left _ _) _) (hu d hd)
  have ht : ∀ d, d ∈ ds → ∃ x r, d = .tuple (x :: r) := fun d hd => by obtain ⟨k, r, e, _⟩ := hal.1 d hd; exact ⟨k, [r], e⟩
  refine ⟨fun v hv => ?_, ?_⟩
  · obtain ⟨d, hd, as, r⟩ := e.left v hv
    exact ⟨_, pairKind_some hal hd r⟩
  · cases ds with
      | nil =>
        cases e
        exact ⟨general', fun E x y a b Q ha _ _ => (by
          obtain ⟨d, _, hd, _⟩ := dataKind_inv ha
          exact absurd hd (by simp)), fun h2 => absurd h2 (by simp)⟩
      | cons d₀ ds₀ =>
        obtain ⟨x₀, r₀, e₀, _⟩ := hal.1 d₀ (List.mem_cons_self ..)
        have hfirst : ∀ x r, PyData.tuple (x :: r) ∈ d₀ :: ds₀ → alike x x₀ = true := by
          intro x r hm
          obtain ⟨k, r', e1, _⟩ := hal.1 _ hm
          injection e1 with e1
          injection e1 with e1 e2
          subst e1 e2
          exact (hal.2 x r' x₀ r₀ hm (by rw [← e₀]; exact List.mem_cons_self ..)).1
        refine ⟨tuples' (dataType x₀ != Value.type "tuple"), ?_, fun h2 E Q hq => ?_⟩
        · intro E x y a b Q ha hb hq
          obtain ⟨d, as, hd, ra, rfl⟩ := dataKind_inv ha
          obtain ⟨d', as', hd', rb, rfl⟩ := dataKind_inv hb
          have hroom := room (d' := d') hd
          obtain ⟨k1, r1, rfl, ar1, kn1⟩ := hal.1 d hd
          obtain ⟨k2, r2, rfl, ar2, kn2⟩ := hal.1 d' hd'
          obtain ⟨hkk, hrr⟩ := hal.2 k1 r1 k2 r2 hd hd'
          have hq' : Q (dataLt (.tuple [k1, r1]) (.tuple [k2, r2])) s := hq
          rw [dataLt_tuple] at hq'
          cases ra with
          | @tuple l o xs n _ _ h1 h2 h3 h4 =>
            cases rb with
            | @tuple l' o' xs' n' _ _ g1 g2 g3 g4 =>
              have n1 : xs.size = 2 := by simpa using SeqAt.ReadsAll.length _ _ _ h4
              have n2 : xs'.size = 2 := by simpa using SeqAt.ReadsAll.length _ _ _ g4
              refine kat_lt h1 h3 g1 g3 ?_
              rw [n1, n2]
              generalize xs.toList = zs at h4
              generalize xs'.toList = zs' at g4
              have hroom2 := SeqAt.room_in hroom
              cases h4 with
              | cons p1 p2 =>
                cases p2 with
                | cons p2 p3 =>
                  cases p3
                  cases g4 with
                  | cons q1 q2 =>
                    cases q2 with
                    | cons q2 q3 =>
                      cases q3
                      show KatLex prog w A _ _ Q [(_, _), (_, _)] 0 s
                      have hra : A.units + min (PyData.depthAll [k1, r1]) (PyData.depthAll [k2, r2]) < cLine := by omega
                      refine kat_cons (eqAt_alike k1 k2 A s _ _ _ _ p1 q1 hkk (SeqAt.room_head hra) prog w _ _ ?_)
                      cases hx : PyData.eqv k1 k2 with
                      | true =>
                        have er := hrr hx
                        subst er
                        rw [dataLt_all_yes hkk hx, lex_irrefl] at hq'
                        refine kat_yes (kat_cons (eqAt_alike r1 r1 A s _ _ _ _ p2 q2 ar1 (SeqAt.room_head (SeqAt.room_tail hra)) prog w _ _ ?_))
                        rw [eqv_refl_alike r1 ar1]
                        exact kat_yes (kat_nil hq')
                      | false =>
                        rw [dataLt_all_no hkk hx] at hq'
                        refine kat_no (oneLt_alike (fun hb t ex => ?_) p1 q1 hkk kn1 (SeqAt.room_head hra) hq')
                        have hb : (dataType x₀ != Value.type "tuple") = true := by simpa using hb
                        have q := dataType_alike (hfirst _ _ hd)
                        rw [← q] at hb
                        subst ex
                        exact dataType_tuple hb t rfl
        · obtain ⟨fs, t1, t2, t3⟩ := each_katTups e ht
          refine kat_kind (T := dataType x₀) t1 (by omega) (fun f hf => ?_) (beq_self_eq_true _) hq
          obtain ⟨x, r, as, m1, m2⟩ := t3 f hf
          rw [← dataType_alike (hfirst x r m1)]
          exact looks_reads m2
/-! ### d.items() -/
def itD (kvs : List (PyData × PyData)) : List PyData := kvs.map fun p => .tuple [p.1, p.2]
theorem each_idx {R : Value → PyData → Prop} : ∀ {us : List Value} {ds : List PyData}, us.length = ds.length → (∀ (j : Nat) (u : Value) (d : PyData), us[j]? = some u → ds[j]? = some d → R u d) → EachIs R us ds
  | [], [], _, _ => .nil
  | [], _ :: _, h, _ => by simp at h
  | _ :: _, [], h, _ => by simp at h
  | u :: us, d :: ds, h, hr => .cons (hr 0 u d rfl rfl) (each_idx (by simpa using h) fun j u' d' h1 h2 => hr (j + 1) u' d' (by simpa using h1) (by simpa using h2))
theorem idxG {K : Kw} {F : Hp} : ∀ {es : List Ge} {kvs : List (PyData × PyData)} {j : Nat} {q : PyData × PyData}, DqG K F es kvs → kvs[j]? = some q → ∃ g, es[j]? = some g ∧ Dq K F (.ref g.2.1) q.1 ∧ Dq K F g.2.2 q.2
  | _, _, j, q, .nil, h => by simp at h
  | _, _, 0, q, .cons h1 h2 h3 h4 t, h => by simp at h; subst h; exact ⟨_, rfl, h1, h4⟩
  | _, _, j + 1, q, .cons h1 h2 h3 h4 t, h => by
    obtain ⟨g, g1, g2⟩ := idxG (j := j) t (by simpa using h)
    exact ⟨g, by simpa using g1, g2⟩
theorem idxP {α β : Type} {R : α → β → Prop} : ∀ {l : List α} {m : List β} {j : Nat} {x : α}, Paired R l m → l[j]? = some x → ∃ y, m[j]? = some y ∧ R x y
  | _, _, j, x, .nil, h => by simp at h
  | _, _, 0, x, .cons h1 t, h => by simp at h; subst h; exact ⟨_, rfl, h1⟩
  | _, _, j + 1, x, .cons h1 t, h => by
    obtain ⟨y, g1, g2⟩ := idxP (j := j) t (by simpa using h)
    exact ⟨y, by simpa using g1, g2⟩
theorem lenG {K : Kw} {F : Hp} : ∀ {es : List Ge} {kvs : List (PyData × PyData)}, DqG K F es kvs → es.length = kvs.length
  | _, _, .nil => rfl
  | _, _, .cons _ _ _ _ t => by rw [List.length_cons, List.length_cons, lenG t]
/-! ### the view -/
theorem gn_ok {kvs : List (PyData × PyData)} (h : gnK kvs = true) : kvs = [] ∨ ∃ kd, okK kvs kd = true := by
  cases kvs with
  | nil => exact .inl rfl
  | cons a r =>
    refine .inr ⟨a.1, ?_⟩
    unfold okK
    rw [h]
    have : gnD a.1 = true := by
      unfold gnK at h
      rw [List.all_cons, Bool.and_eq_true] at h
      exact h.1
    rw [this]
    simp
open Classical in
/-- sorted(d.items()) -/
noncomputable def mSrtIt (mo : Ev) : Ev := fun ρ st => (mV mo ρ st).bind fun x s => match view s x with
  | some (.dict kvs) => if gnK kvs = true ∧ PairS (itD kvs) ∧ ∀ d ∈ itD kvs, d.depth ≤ 60 then .ok (.n (.l ((itD kvs).mergeSort (dataLe false id)))) s else .no
  | _ => .no
variable {X : Cx} {C : Cn} {o : Expr} {mo : Ev} {p cpos pos apos : Pos} {k : Nat}
variable {E : Er → Sto → Prop} {ρ : En} {st : Sto} {PE' : Rv → Sto → Prop}
@[simp] theorem W_mSrtIt : WVe E (mSrtIt mo ρ st) PE' = WVe E (mo ρ st) fun r s => match view s (frz r) with
    | some (.dict kvs) => (gnK kvs = true ∧ PairS (itD kvs) ∧ ∀ d ∈ itD kvs, d.depth ≤ 60) ∧ PE' (.n (.l ((itD kvs).mergeSort (dataLe false id)))) s
    | _ => False := by
  unfold mSrtIt; rw [WV_bind, W_mV]
  congr 1; funext r s
  cases view s (frz r) with
  | none => rfl
  | some d =>
    cases d with
    | dict kvs =>
      dsimp only
      by_cases h : gnK kvs = true ∧ PairS (itD kvs) ∧ ∀ d ∈ itD kvs, d.depth ≤ 60
      · rw [if_pos h]; simp only [WVe, h, and_self, true_and, eq_iff_iff]; exact ⟨fun x => ⟨h.2.2, x⟩, fun x => x.2⟩
      · rw [if_neg h]; simp only [WVe, eq_iff_iff]; exact ⟨fun x => x.elim, fun x => h x.1⟩
    | _ => rfl
/-! ### list(d.items()) -/
/-- list(d.items()) -/
def mLstIt (mo : Ev) : Ev := fun ρ st => (mV mo ρ st).bind fun x s => match view s x with
  | some (.dict kvs) => if gnK kvs = true then .ok (.n (.l (itD kvs))) s else .no
  | _ => .no
@[simp] theorem W_mLstIt : WVe E (mLstIt mo ρ st) PE' = WVe E (mo ρ st) fun r s => match view s (frz r) with
    | some (.dict kvs) => gnK kvs = true ∧ PE' (.n (.l (itD kvs))) s
    | _ => False := by
  unfold mLstIt; rw [WV_bind, W_mV]
  congr 1; funext r s
  cases view s (frz r) with
  | none => rfl
  | some d =>
    cases d with
    | dict kvs =>
      dsimp only
      by_cases h : gnK kvs = true
      · rw [if_pos h]; simp [h, WVe]
      · rw [if_neg h]; simp [h, WVe]
    | _ => rfl
end
end Cp
/-! Csd: sorted of a dict with tuple keys. -/
namespace Cp
open PySem L2
end Cp
/-! Cgi: for k in d, for k, v in d.items(), list(d): data whose keys are tuples. -/
namespace Cp
open PySem L2
open PySem.Spec PyProof.Rows
section
variable {X : Cx} {pins : List (Addr × Obj)} {σ : L2.St} {H : Hp} {s : Shared} {d : Addr} {r : Obj} {w : World} {es : List Ge}
theorem dgr (I : L2.Inv X pins σ H s) (h : H d = some (dgO w r d es)) :
    (d == sysModules) = false ∧ s.heap.get? d = some r ∧ r.ExactDict ∧ es.length ≤ sizeLine ∧ ∃ (ar : Array DictEntry) (ep : Nat), r.data = .dict ar ep ∧ ar.size = es.length ∧
      ∀ (i : Nat) (g : Ge), es[i]? = some g → ∃ en : DictEntry, ar[i]? = some en ∧ en.key = .ref g.2.1 ∧ RelV g.2.2 en.val := by
  obtain ⟨⟨hl, low, xs, o, ar, ep, p, ⟨e1, rfl⟩, e2, e3, e4⟩, _⟩ := I.hok d _ h
  have l1 : es.length = xs.length := Paired.length p
  have l2 : ar.size = xs.length := by rw [← Array.length_toList, e4, List.length_map]
  refine ⟨low, e1, e2, hl, ar, ep, e3, by omega, fun i g hg => ?_⟩
  obtain ⟨x, x1, x2, x3, x4⟩ := idxP p hg
  refine ⟨dgE w x, ?_, ?_, x4⟩
  · rw [← Array.getElem?_toList, e4, List.getElem?_map, x1]; rfl
  · show Value.ref x.2.1 = _
    rw [x3]
end
/-- the keys -/
def Itgk (w : World) (r : Obj) (d : Addr) (es : List Ge) : It :=
  ⟨fun i H => H d = some (dgO w r d es) ∧ i < es.length, fun i H x H' => H' = H ∧ ∃ g, es[i]? = some g ∧ x = .ref g.2.1, fun i H => H d = some (dgO w r d es) ∧ es.length ≤ i⟩
/-- the pairs, each a new tuple -/
def Itgi (w : World) (r : Obj) (d : Addr) (es : List Ge) : It :=
  ⟨fun i H => H d = some (dgO w r d es) ∧ i < es.length, fun i H x H' => ∃ T g, es[i]? = some g ∧ x = .ref T ∧ H T = none ∧ H' = upd H T (.tup [.ref g.2.1, g.2.2]), fun i H => H d = some (dgO w r d es) ∧ es.length ≤ i⟩
section
variable {P : Program} {w w' : World} {K : PySem.W.Frag} {tg : Expr} {d : Addr} {r : Obj} {ar : Array DictEntry} {ep : Nat} {es : List Ge}
theorem turn_keysG (it : Addr) (hod : r.data = .dict ar ep) : Turn P w K tg (Itgk w' r d es) [it] it (fun i h => h.IsKeyIter it d i es.length ep) where
  mem := by simp
  obj := fun i h st b hb => by
    have e : b = it := by simpa using hb
    subst e
    obtain ⟨oi, e, c, dd⟩ := st
    exact ⟨oi, e, fun v z => by rw [dd] at z; cases z⟩
  keep := fun i h h' st k => st.at fun oi e => k it (by simp) oi e
  item := by
    intro X hP hw hK hc i pins s σ H E I hf st hg
    subst hP hw hK
    obtain ⟨hd, hi⟩ := hg
    obtain ⟨f0, f1, f2, f3, f4, f5⟩ := hf it (by simp)
    obtain ⟨hs, hgd, hx, _, es', ep', hdt, hsz, ent⟩ := dgr I hd
    obtain ⟨rfl, rfl⟩ := dict_ep hod hdt
    obtain ⟨g, hkv⟩ : ∃ p, es[i]? = some p := ⟨es[i], List.getElem?_eq_getElem hi⟩
    obtain ⟨en, hen, hkey, _⟩ := ent i g hkv
    refine next_key_item st hgd hdt hsz hen fun h' st' sb => ?_
    have I1 : L2.Inv X pins σ H { s with heap := h' } := I.turned (t' := s.toks) (fun b ob hb e => (sb.2 b hb).trans e) f0 f1 f3 f4 f5
    obtain ⟨oi, e, c, dd⟩ := id st'
    exact ⟨en.key, rfl, go_of (s := { s with heap := h' }) e c dd (by decide) ⟨.ref g.2.1, H, I1, hkey, ⟨rfl, g, hkv, rfl⟩, st', fun b hb => (hf b hb).1⟩⟩
  done := by
    intro X hP hw hK hc i pins s σ H E I hf st hg
    subst hP hw hK
    obtain ⟨hd, hi⟩ := hg
    obtain ⟨f0, f1, f2, f3, f4, f5⟩ := hf it (by simp)
    obtain ⟨hs, hgd, hx, _, es', ep', hdt, hsz, ent⟩ := dgr I hd
    obtain ⟨rfl, rfl⟩ := dict_ep hod hdt
    exact next_key_end (I.ok.hd hc) st hgd hdt hsz hi fun h' eb => ⟨rfl, I.turned (t' := s.toks) (fun b ob hb e => eb b ob hb e) f0 f1 f3 f4 f5⟩
  self := fun A i s Q E st h => wpAny_pyIter_keyiter st h
theorem turn_itemsG {elts : List Expr} {kk : Nat} {tpos : Pos} (it : Addr) (hod : r.data = .dict ar ep) :
    Turn P w K (.Tuple elts kk tpos) (Itgi w' r d es) [it] it (fun i h => ∃ ok ov, IsItemIter h it d i es.length ep ok ov) where
  mem := by simp
  obj := fun i h st b hb => by
    have e : b = it := by simpa using hb
    subst e
    obtain ⟨ok, ov, e⟩ := st
    exact ⟨_, e, fun v z => nomatch z⟩
  keep := fun i h h' st k => let ⟨ok, ov, e⟩ := st; ⟨ok, ov, k it (by simp) _ e⟩
  item := by
    intro X hP hw hK hc i pins s σ H E I hf st hg
    subst hP hw hK
    obtain ⟨hd, hi⟩ := hg
    obtain ⟨hs, hgd, hx, _, es', ep', hdt, hsz, ent⟩ := dgr I hd
    obtain ⟨rfl, rfl⟩ := dict_ep hod hdt
    obtain ⟨g, hkv⟩ : ∃ p, es[i]? = some p := ⟨es[i], List.getElem?_eq_getElem hi⟩
    obtain ⟨en, hen, hkey, hval⟩ := ent i g hkv
    obtain ⟨ok, ov, he⟩ := st
    have hlt : it < s.heap.objs.size := Heap.lt_size he
    have hia : i < es'.size := by omega
    have hena : es'[i] = en := by
      have := hen
      rw [Array.getElem?_eq_getElem hia] at this
      exact Option.some.inj this
    rw [← hsz] at he
    refine DT.nextI he ⟨r, hgd, hx, hdt⟩ hia fun h' ho hT hz hk => ?_
    rw [hena] at ho hT
    refine ⟨_, rfl, wpAny_letOwnedTupleGo_items (s := { s with heap := h' }) ho fun h'' he' sb => ?_⟩
    have hT2 : h''.get? s.heap.objs.size = some { cls := .type "tuple", data := .seq #[en.key, en.val] } := (sb.2 _ (Nat.ne_of_gt hlt)).trans hT
    have new : ObjOk X.prog X.w (upd H s.heap.objs.size (.tup [.ref g.2.1, g.2.2])) h'' s.heap.objs.size (.tup [.ref g.2.1, g.2.2]) :=
      ⟨by show 2 ≤ sizeLine; decide, [en.key, en.val], .cons hkey (.cons hval .nil), ⟨_, hT2, rfl, _, rfl⟩⟩
    have I1 : L2.Inv X pins σ (upd H s.heap.objs.size (.tup [.ref g.2.1, g.2.2])) { s with heap := h'' } :=
      I.turnedNew (t' := s.toks) (ch := [it]) (fun b ob hb e => (sb.2 b (by simpa using hb)).trans (hk b ob (by simpa using hb) e)) hf (Nat.le_refl _) new
    refine ⟨.ref s.heap.objs.size, _, I1, rfl, ⟨_, g, hkv, rfl, I.hok.fresh (Nat.le_refl _), rfl⟩, ⟨en.key, en.val, ?_⟩, fun b hb => ?_⟩
    · rw [← hsz]; exact he'
    · have e : b = it := by simpa using hb
      rw [e, upd_ne (Nat.ne_of_lt hlt)]
      exact (hf it (by simp)).1
  done := by
    intro X hP hw hK hc i pins s σ H E I hf st hg
    subst hP hw hK
    obtain ⟨hd, hi⟩ := hg
    obtain ⟨f0, f1, f2, f3, f4, f5⟩ := hf it (by simp)
    obtain ⟨hs, hgd, hx, _, es', ep', hdt, hsz, ent⟩ := dgr I hd
    obtain ⟨rfl, rfl⟩ := dict_ep hod hdt
    obtain ⟨ok, ov, he⟩ := st
    rw [← hsz] at he
    exact DT.endI (I.ok.hd hc) he ⟨r, hgd, hx, hdt⟩ (by omega) fun h' eb => ⟨rfl, I.turned (t' := s.toks) (fun b ob hb e => eb b ob hb e) f0 f1 f3 f4 f5⟩
  self := fun A i s Q E st h => let ⟨_, _, e⟩ := st; PySem.W.kcp_self e h
end
def iKeysG (td : TE) : TI := fun σ H R => td σ H fun x H1 => ∃ w r d es, x = .ref d ∧ H1 d = some (dgO w r d es) ∧ R (Itgk w r d es) H1
def iItemsG (td : TE) : TI := fun σ H R => td σ H fun x H1 => ∃ w r d es, x = .ref d ∧ H1 d = some (dgO w r d es) ∧ R (Itgi w r d es) H1
section
variable {X : Cx} {tg e : Expr} {td : TE} {apos cpos : Pos}
theorem pi_keysG (he : PE X e td) : PI X tg e (iKeysG td) := by
  refine ⟨fun pins s σ H R I h => ?_⟩
  refine thn (he.run pins s σ H _ I h) fun u s1 ⟨x, H1, I1, rx, w, r, d, es, ex, hd, q⟩ => ?_
  subst ex
  obtain rfl : u = Value.ref d := rx
  obtain ⟨hs, hgd, hx, _, ar, ep, hdt, hsz, ent⟩ := dgr I1 hd
  refine iter_keys hs hgd hx hdt (pi_one (tk := s1.toks) I1 _ (turn_keysG _ hdt) ⟨_, Heap.get?_push_size _ rfl, rfl, ?_⟩ q)
  rw [hsz] <;> rfl
theorem pi_itemsG {elts : List Expr} {kk : Nat} {tpos : Pos} (he : PE X e td) (hbase : attributeBase e "items" X.env (eval e X.env) = eval e X.env := by rfl) (hline : (apos.endLine == cpos.line) = true := by rfl) :
    PI X (.Tuple elts kk tpos) (.Call (.Attribute e "items" apos) [] [] cpos) (iItemsG td) := by
  refine ⟨fun pins s σ H R I h => ?_⟩
  refine wpAny_Call_method0_late hbase hline (thn (he.run pins s σ H _ I h) fun u s1 ⟨x, H1, I1, rx, w, r, d, es, ex, hd, q⟩ => ?_)
  subst ex
  obtain rfl : u = Value.ref d := rx
  obtain ⟨hs, hgd, hx, _, ar, ep, hdt, hsz, ent⟩ := dgr I1 hd
  have raw : DT.Raw s1.heap d ar ep := ⟨r, hgd, hx, hdt⟩
  refine ⟨"dict", "dict.items", PySem.F.plainAttrs_dict, PySem.F.slot_dict_items, PySem.F.type_dict_items, ⟨r, hgd, hx.1⟩, fun a e => ?_, Calls.callWith_builtin rfl (PySem.evalArgs_none (DT.callItems (es := ar) (ep := ep) hs raw ?_))⟩
  · cases e; exact ⟨r, hgd, hx.2.1⟩
  have I2 : L2.Inv X pins σ H1 { s1 with heap := s1.heap.push { cls := .type "dict_items", data := .fields #[.ref d] } } := I1.kept (t' := s1.toks) fun b ob q => Heap.get?_push_of_some _ q
  refine DT.iterI (d := d) (es := ar) (ep := ep) ⟨_, Heap.get?_push_size _ rfl, rfl, rfl⟩ (raw.push _) (pi_one (tk := s1.toks) I2 _ (turn_itemsG _ hdt) ⟨.none, .none, ?_⟩ q)
  rw [← hsz]
  exact Heap.get?_push_size _ rfl
end
end Cp
/-! Cgs: d.setdefault(k, v), keys that are tuples. -/
namespace Cp
open PySem L2
/-- what a dict of tuple keys, a key, a value ask -/
def tSetd (w : World) (to : TE) (ta : TA) : TE := fun σ H Q => to σ H fun x H1 => (∃ (K : Kw) (F : Hp) (a : Addr) (o : HO) (kvs : List (PyData × PyData)), x = .ref a ∧ K.w = w ∧ H1 a = some o ∧ Same F H1 ∧ DcOk K F a kvs o ∧ gnK kvs = true) ∧
  ta σ H1 fun xs H2 => ∃ (K : Kw) (F : Hp) (a : Addr) (o : HO) (kvs : List (PyData × PyData)) (kx v : V) (kd dv : PyData), x = .ref a ∧ xs = [kx, v] ∧ K.w = w ∧ H2 a = some o ∧ Same F H2 ∧ DcOk K F a kvs o ∧ gnK kvs = true ∧ Dq K F kx kd ∧ gnD kd = true ∧ Dq K F v dv ∧ kvs.length < sizeLine ∧
    (match lookD kvs kd with
      | some d0 => ∀ r, Dq K F r d0 → Q r H2
      | none => ∀ o', DcOk K F a (putD kvs kd dv) o' → Q v (upd H2 a o'))
theorem pe_setd {X : Cx} {o e1 : Expr} {es : List Expr} {to : TE} {ta : TA} {apos cpos : Pos} (hu : X.A.units + 64 < cLine) (ho : PE X o to) (ha : PA X (e1 :: es) ta) (hbase : attributeBase o "setdefault" X.env (eval o X.env) = eval o X.env := by rfl)
    (hfew : ((backTo cpos (starEach (e1 :: es) X.env)).all (fun x => !x.1) && (backToKw cpos (keywordEach [] X.env)).all (fun x => x.1.isSome)
      && decide ((e1 :: es).length + ([] : List Keyword).length + (if ([] : List Keyword).isEmpty then 0 else 1) < 30)) = true := by rfl)
    (hline : (apos.endLine == cpos.line) = true := by rfl) (hs : starEach (e1 :: es) X.env = (false, eval e1 X.env) :: starEach es X.env := by rfl) (hplain : (backTo cpos (starEach es X.env)).any (·.1) = false := by rfl) :
    PE X (.Call (.Attribute o "setdefault" apos) (e1 :: es) [] cpos) (tSetd X.w to ta) := by
  refine ⟨fun pins s σ H Q I h => ?_⟩
  refine wpAny_Call_method_late hbase hfew hline rfl (thn (ho.run pins s σ H _ I h) fun v s1 ⟨x, H1, I1, r1, ⟨K, F, a, ob, kvs, e, hw, hobj, sm, hd, hg⟩, q1⟩ => ?_)
  subst e
  cases r1
  have hty : s1.TypeIs (.ref a) "dict" ∧ ∀ a', Value.ref a = .ref a' → ∃ ob, s1.heap.get? a' = some ob ∧ ob.dict = none := by
    obtain ⟨es, xs, h2, h3, pr, ⟨o', ar, ep, e1, e2, e3, e4, e5, e6⟩, hl, low, _⟩ := dc_gen I1.hok sm hw hobj hd hg
    exact ⟨⟨o', e1, e2.1⟩, fun a' e => by cases e; exact ⟨o', e1, e2.2.1⟩⟩
  refine ⟨"dict", "dict.setdefault", PySem.F.plainAttrs_dict, PySem.F.slot_dict_setdefault, PySem.F.type_dict_setdefault, hty.1, hty.2, ?_⟩
  have hA := ha.run cpos pins s1 σ H1 _ I1 q1
  rw [hs] at hA ⊢
  refine Calls.callWith_builtin (by show (false || (backTo cpos (starEach es X.env)).any (·.1)) = false; rw [hplain] <;> rfl) (Calls.evalArgs_plain ?_)
  refine thn hA fun us s2 ⟨vs, H2, I2, r2, K, F, a2, ob2, kvs2, kx, v, kd, dv, ex, exs, hw2, ho2, sm2, hd2, hg2, hk, gk, hv, hlen, q⟩ => ?_
  cases ex
  subst exs
  obtain ⟨uk, uv, rfl, rk, rv⟩ : ∃ uk uv, us = [uk, uv] ∧ RelV kx uk ∧ RelV v uv := by
    cases r2 with
    | cons r3 r4 =>
      cases r4 with
      | cons r5 r6 =>
        cases r6
        exact ⟨_, _, rfl, r3, r5⟩
  obtain ⟨ds, ks, rfl, ek, hdep⟩ := gnD_ok gk
  obtain ⟨es, xs, h1, h2, h3, h4, h5, h6, h7⟩ := dc_gen (P := X.prog) I2.hok sm2 hw2 ho2 hd2 hg2
  obtain ⟨b, rfl⟩ : ∃ b, kx = .ref b := by cases hk; exact ⟨_, rfl⟩
  cases rk
  have hlen2 : es.length = kvs2.length := lenG h1
  refine call_setdefault_heap (knd := nestedKind X.prog X.w) (hsz := by rw [← Paired.length h3]; exact h5) (show X.A.units + 1 + 8 < cLine by omega) ⟨Dq.nest I2.hok (hk.same sm2) rfl ek, hdep⟩ h6 h4 (fun p hp => ?_) (fun hn h' dd' hss => ?_)
  · have hr := lookX h3 (.tup ks)
    rw [hp] at hr
    have hl := lookG_ok ek h1
    cases q1 : lookG es (.tup ks) with
    | none => rw [q1] at hr; exact False.elim hr
    | some r =>
      rw [q1] at hr hl
      cases q2 : lookD kvs2 (.tuple ds) with
      | none => rw [q2] at hl; exact False.elim hl
      | some d0 =>
        rw [q2] at hl q
        exact ⟨r, H2, I2.tok _, hr, q r hl⟩
  · have hr := lookX h3 (.tup ks)
    rw [hn] at hr
    have hl := lookG_ok ek h1
    cases q1 : lookG es (.tup ks) with
    | some r => rw [q1] at hr; exact False.elim hr
    | none =>
      rw [q1] at hl
      cases q2 : lookD kvs2 (.tuple ds) with
      | some d0 => rw [q2] at hl; exact False.elim hl
      | none =>
        rw [q2] at q
        have hp := putX h3 (.tup ks) b rv
        have hlp : (putG es (.tup ks) b v).length ≤ sizeLine := by have := @putG_len es (.tup ks) b v; omega
        obtain ⟨o', ar, ep, e1, e2, e3, e4, _, _⟩ := dd'
        refine ⟨v, _, d_write I2 h7 hss ⟨o', e1⟩ ?_, rv, q (dgO K.w o' a (putG es (.tup ks) b v)) (.inr ⟨_, ⟨_, rfl⟩, putG_ok ek hdep hk hv h1, putG_nodup h2, putG_ne⟩)⟩
        refine ⟨⟨hlp, h6, _, o', ar, ep, hp, ⟨e1, rfl⟩, e2, e3, by rw [e4, hw2]; rfl⟩, ⟨o', e1⟩, fun g1 g2 ⟨l1, l2, ys, oz, az, ez, z1, z2, z3, z4, z5⟩ st => ⟨l1, l2, ys, oz, az, ez, z1, ⟨st _ z2.1, z2.2⟩, z3, z4, z5⟩⟩
def mSetd (mo mk mv : Ev) : Ev := fun ρ st => (mV mo ρ st).bind fun x s1 => match view s1 x with
  | some (.dict kvs0) => if gnK kvs0 = true then (mV mk ρ s1).bind fun z s2 => (mV mv ρ s2).bind fun y s3 => match x, z, y with
    | .c i, .d k, .d v => (match s3[i]? with
      | some (.m kvs) => if gnK kvs = true ∧ gnD k = true ∧ isGone (.m kvs) = false ∧ kvs.length < sizeLine then (match lookD kvs k with
        | some d0 => .ok (.d d0) s3
        | none => .ok (.d v) (s3.set i (.m (putD kvs k v)))) else .no
      | _ => .no)
    | _, _, _ => .no else .no
  | _ => .no
section
variable {X : Cx} {C : Cn} {o e1 e2 : Expr} {mo mk mv : Ev} {apos cpos : Pos} {k : Nat}
theorem dq_dict {K : Kw} {F H : Hp} {v : V} {kvs : List (PyData × PyData)} (h : Vw K F H v (.dict kvs)) (g : gnK kvs = true) : ∃ a o, v = .ref a ∧ H a = some o ∧ DcOk K F a kvs o := by
  rcases h with h | ⟨x, r, rfl, _⟩
  · exact h
  · cases g
theorem s_setd (B : Bd k X C) (ho : PE X o (tM C mo)) (hk : PE X e1 (tM C mk)) (hv : PE X e2 (tM C mv)) (hbase : attributeBase o "setdefault" X.env (eval o X.env) = eval o X.env := by rfl)
    (hfew : ((backTo cpos (starEach [e1, e2] X.env)).all (fun x => !x.1) && (backToKw cpos (keywordEach [] X.env)).all (fun x => x.1.isSome)
      && decide ([e1, e2].length + ([] : List Keyword).length + (if ([] : List Keyword).isEmpty then 0 else 1) < 30)) = true := by rfl)
    (hline : (apos.endLine == cpos.line) = true := by rfl) (hs : starEach [e1, e2] X.env = (false, eval e1 X.env) :: starEach [e2] X.env := by rfl) (hs2 : starEach [e2] X.env = (false, eval e2 X.env) :: starEach [] X.env := by rfl) (hpl : (backTo cpos (starEach [e2] X.env)).any (·.1) = false := by rfl) :
    PE X (.Call (.Attribute o "setdefault" apos) [e1, e2] [] cpos) (tM C (mSetd mo mk mv)) :=
  (pe_setd B.rm.hu (pv_frz ho) (pa_cons (pv_frz hk) (pa_cons (pv_frz hv) pa_nil hs2) hs) hbase hfew hline hs hpl).imp fun σ H Q ⟨ρ, st, μ, F, h1, h2, h3⟩ => ⟨ρ, st, μ, F, h1, h2, Post.bindV gE_lat h3 fun x s v μ1 F1 H1 x1 r1 k1 h4 => by
    cases q1 : view s x with
    | none => simp only [q1] at h4; exact False.elim h4
    | some dx =>
      cases dx with
      | dict kvs0 =>
        simp only [q1] at h4
        by_cases hf0 : gnK kvs0 = true
        case neg => rw [if_neg hf0] at h4; exact False.elim h4
        rw [if_pos hf0] at h4
        obtain ⟨pp, oo, rfl, g0, g1⟩ := dq_dict (view_ok r1 k1 q1) hf0
        refine ⟨⟨C.K, F1, pp, oo, kvs0, rfl, B.hw, g0, r1.sub, g1, hf0⟩, ρ, s, μ1, F1, h1.ext x1, r1, Post.bindV gE_lat h4 fun z s2 u μ2 F2 H2 x2 r2 k2 h5 => ⟨ρ, s2, μ2, F2, (h1.ext x1).ext x2, r2, Post.bindV gE_lat h5 fun y s3 w μ3 F3 H3 x3 r3 k3 h6 => ?_⟩⟩
        cases x with
        | c i =>
          cases z with
          | d kd =>
            cases y with
            | d dv =>
              cases q : s3[i]? with
              | none => simp only [q] at h6; exact False.elim h6
              | some cl =>
                cases cl with
                | l _ => simp only [q] at h6; exact False.elim h6
                | m kvs =>
                  simp only [q] at h6
                  by_cases hh : gnK kvs = true ∧ gnD kd = true ∧ isGone (.m kvs) = false ∧ kvs.length < sizeLine
                  case neg => rw [if_neg hh] at h6; exact False.elim h6
                  rw [if_pos hh] at h6
                  obtain ⟨hh1, hh2, hh3, hh4⟩ := hh
                  obtain ⟨a, e1, e2⟩ := k1
                  cases e2
                  have e1 := x3.get (x2.get e1)
                  obtain ⟨b, ob, g1, g2, g3⟩ := r3.cell i _ q hh3
                  rw [e1] at g1; cases g1
                  have hkd : Dq C.K F3 u kd := Dq.same x3.same k2
                  refine ⟨C.K, F3, pp, ob, kvs, u, w, kd, dv, rfl, rfl, B.hw, g2, r3.sub, g3, hh1, hkd, hh2, k3, hh4, ?_⟩
                  cases q5 : lookD kvs kd with
                  | some d0 =>
                    simp only [q5] at h6
                    exact fun r hr => fin_d r3 h6 hr
                  | none =>
                    simp only [q5] at h6
                    intro o' hc'
                    obtain ⟨w1, w2⟩ := r3.write e1 (show ClOk C.K F3 pp (.m (putD kvs kd dv)) o' from hc') q hh3
                    exact h6 w _ _ _ ⟨w2, w1, k3, fun _ z => nomatch z⟩
            | _ => exact False.elim h6
          | _ => exact False.elim h6
        | _ => exact False.elim h6
      | _ => simp only [q1] at h4; exact False.elim h4⟩
variable {E : Er → Sto → Prop} {ρ : En} {st : Sto} {PE' : Rv → Sto → Prop}
@[simp] theorem W_mSetd : WVe E (mSetd mo mk mv ρ st) PE' = WVe E (mo ρ st) fun x s1 => (match view s1 (frz x) with
    | some (.dict kvs0) => gnK kvs0 = true ∧ WVe E (mk ρ s1) fun z s2 => WVe E (mv ρ s2) fun y s3 => (match frz x, frz z, frz y with
      | .c i, .d k, .d v => (match s3[i]? with
        | some (.m kvs) => (gnK kvs = true ∧ gnD k = true ∧ isGone (.m kvs) = false ∧ kvs.length < sizeLine) ∧ (match lookD kvs k with
          | some d0 => PE' (.d d0) s3
          | none => PE' (.d v) (s3.set i (.m (putD kvs k v))))
        | _ => False)
      | _, _, _ => False)
    | _ => False) := by
  unfold mSetd; rw [WV_bind, W_mV]
  congr 1; funext x s1
  generalize frz x = x'
  cases view s1 x' with
  | none => rfl
  | some d =>
    cases d with
    | dict kvs0 =>
      dsimp only
      by_cases hf0 : gnK kvs0 = true
      case neg => rw [if_neg hf0]; exact propext ⟨fun z => False.elim z, fun z => absurd z.1 hf0⟩
      rw [if_pos hf0, and_iff_right hf0, WV_bind, W_mV]
      congr 1; funext z s2
      rw [WV_bind, W_mV]
      congr 1; funext y s3
      generalize frz z = z'
      generalize frz y = y'
      cases x' with
      | c i =>
        cases z' with
        | d k =>
          cases y' with
          | d v =>
            dsimp only
            cases s3[i]? with
            | none => rfl
            | some c =>
              cases c with
              | l _ => rfl
              | m kvs =>
                dsimp only
                by_cases hh : gnK kvs = true ∧ gnD k = true ∧ isGone (.m kvs) = false ∧ kvs.length < sizeLine
                · rw [if_pos hh, and_iff_right hh]
                  cases lookD kvs k <;> rfl
                · rw [if_neg hh]; exact propext ⟨fun z => False.elim z, fun z => absurd z.1 hh⟩
          | _ => rfl
        | _ => rfl
      | _ => rfl
    | _ => rfl
end
end Cp
/-! Cgk: sorted(d, key=f), list(d): d data whose keys are tuples. -/
namespace Cp
open PySem PySem.W PySem.Calls PyProof.Rows L2
/-- what the rule asks -/
def rSrtKD (X : Cx) (C : Cn) (f : Value) (sem : Fs) : List V → List V → Hp → VK → Prop := fun vs zs H Q => ∃ (st : Sto) (μ : Mu) (F : Hp) (a : Addr) (o : HO) (kvs : List (PyData × PyData)) (ks : List PyData), vs = [V.ref a] ∧ Vals zs [f] ∧ H a = some o ∧ DcOk C.K F a kvs o ∧ gnK kvs = true ∧ SR C.K μ F H st ∧ keysOf sem st (kvs.map (·.1)) = some ks ∧ Srtk ks ∧
  ∀ ys p μ' F' H', DqAll C.K F' ys (sortK (kvs.map (·.1)) ks) → Ext μ F H μ' F' H' → SR C.K μ' F' H' st → H' p = none → H p = none → Q (.ref p) (upd H' p (.lst ys))
section
variable {X : Cx} {C : Cn} {k j : Nat} {x : Str}
theorem cr_srtKD {f : Addr} {fd : FuncData} {ps : List Str} {sem : Fs} (B : Bd k X C) (hkp : PySem.W.keepIn X.K (.ref f) = true) (hb : Binds X.K fd ps []) (G : FnC X.prog X.w X.K X.mg X.base j f fd ps sem) (hj : j + 2 ≤ k) : CallRK X (.builtin "sorted") [Str.ofString "key"] (rSrtKD X C (.ref f) sem) := by
  have hcm := B.cm
  obtain ⟨⟨K, w⟩, mg, W, σC⟩ := C
  obtain rfl : K = X.K := B.hK
  obtain rfl : w = X.w := B.hw
  obtain rfl : mg = X.mg := B.hm
  intro pins s σ H vs zs us ws Q I r rz h
  obtain ⟨st, μ, F, a, o, kvs, ks, rfl, hz, ha, hdc, hgn, sr, hks, ⟨al, so, dp⟩, q⟩ := h
  obtain rfl : ws = [.ref f] := by
    cases hz with
    | cons z1 z2 =>
      cases z2
      cases rz with
      | cons y1 y2 =>
        cases y2
        rename_i zv u
        cases zv <;> first
          | (cases z1; cases y1; rfl)
          | (obtain ⟨_, e⟩ := z1; cases e)
          | cases z1
  rw [Vals.ref1 r]
  obtain ⟨kl, kg⟩ := keysOf_get hks
  obtain ⟨es, xs0, h2, h3, pr, ⟨ob, ar, ep, e1, e2, e3, e4, e5, e6⟩, hl, low, _⟩ := dc_gen I.hok sr.sub rfl ha hdc hgn
  have lx : es.length = xs0.length := Paired.length pr
  have la : ar.size = xs0.length := by rw [← Array.length_toList, e4, List.length_map]
  have lk : ar.size = kvs.length := by rw [la, ← lx, lenG h2]
  have rm : Rm (j + 2) X.A := B.rm.mono hj
  have rm1 : Rm j X.A.in1.in1 := ⟨(rm.room.in1).in1, rm.gd⟩
  show wpAny _ _ (call (.builtin "sorted") [.ref a] [(Str.ofString "key", .ref f)]) _ _ _
  refine call_function_entry_kw kind_sorted plain_sorted entry_sorted (ksk_s1 _ _) ?_
  unfold Builtin.«sorted»
  refine wpAny_bind (m := checkCount "sorted" 1 1 _) (wpAny_pure ?_)
  refine wpAny_bind (kdu_collect (A := X.A.in1) (KdlSrc.rawDict (es := ar) (ep := ep) low) (I.ok.hd hcm) ⟨ob, e1, e2, e3⟩ (by omega) fun h' tk acc hk hacc => ?_)
  have hal : acc.toList.length = kvs.length := by rw [Array.length_toList, hacc.1, lk]
  have er0 : EachIs (fun v d => ∃ x, RelV x v ∧ Dq ⟨X.K, X.w⟩ F x d) acc.toList (kvs.map (·.1)) := by
    refine each_idx (by rw [hal, List.length_map]) fun j v d h1 h2' => ?_
    rw [List.getElem?_map] at h2'
    obtain ⟨qq, hq, rfl⟩ := Option.map_eq_some_iff.mp h2'
    obtain ⟨g, g1, g2, g3⟩ := idxG h2 hq
    obtain ⟨x, x1, x2, x3, x4⟩ := idxP pr g1
    obtain ⟨hj, ev⟩ := hacc.2 j v (by rw [← Array.getElem?_toList]; exact h1)
    have t1 : ar.toList[j]? = some ar[j] := by rw [Array.getElem?_toList, Array.getElem?_eq_getElem hj]
    rw [e4, List.getElem?_map, x1] at t1
    have t1 := (Option.some.inj t1).symm
    rw [ev, t1]
    exact ⟨_, by first | (rw [x3]; rfl) | rfl | (show RelV _ _; rw [x3]; exact rfl), g2⟩
  have hL : acc.toList.length ≤ sizeLine := by rw [hal, ← lk]; omega
  generalize acc.toList = its at hal er0 hL ⊢
  obtain ⟨xs, rv, hd⟩ := of_each er0
  have hlen : its.length = (kvs.map (·.1)).length := by rw [hal, List.length_map]
  have I1 : L2.Inv X pins σ H { s with heap := h', toks := tk } := I.kept hk
  refine wpAny_bind (wpAny_newList ?_ hL)
  have hoL : (h'.push (seqObj "list" its.toArray 0)).get? h'.objs.size = some (seqObj "list" its.toArray 0) := Heap.get?_push_size _ rfl
  show wpAny _ _ _ _ _ { s with heap := h'.push (seqObj "list" its.toArray 0), toks := tk }
  refine wpAny_bind (wpAny_holding (wpAny_call_entry_kw slot_list_sort ⟨_, hoL, rfl⟩ entry_list_sort ?bdy (ksk_l1 _ _)))
  case bdy =>
    show wpAny (model X.prog X.w) X.A.in1.in1 (Builtin.«list.sort» ⟨[Value.ref h'.objs.size], [(Str.ofString "key", .ref f)]⟩) _ _ _
    refine wpAny_mono (Q := fun f' s' => f' = .done (.ret Value.none) ∧ EP X pins σ Q (.ref h'.objs.size) s') ?m1 (fun f s' hf => ?m2) fun _ _ q => q
    case m2 =>
      obtain ⟨rfl, hq⟩ := hf
      exact ⟨_, rfl, wpAny_pure ⟨_, rfl, hq⟩⟩
    rw [ksk_t1]
    have I2 : L2.Inv X pins σ H { s with heap := h'.push (seqObj "list" its.toArray 0), toks := tk } := I1.kept (t' := tk) fun b o q => Heap.get?_push_of_some _ q
    have hn0 : H h'.objs.size = none := I1.hok.fresh (Nat.le_refl _)
    refine sk_tree (kz := ks) (s0 := { s with heap := h', toks := tk }) (s := { s with heap := h'.push (seqObj "list" its.toArray 0), toks := tk }) (G := fun i zs H' => ∃ μ' F', Ext μ F H μ' F' H' ∧ SR ⟨X.K, X.w⟩ μ' F' H' st ∧ DqAll ⟨X.K, X.w⟩ F' zs (ks.take i)) I1 (Nat.le_refl _) (by show h'.objs.size ≤ (h'.push _).objs.size; rw [size_push']; exact Nat.le_succ _) I2 hn0 hoL (by rw [kl, hlen]) hL al so
      (fun d hm => by have h1 := dp d hm; have h2 := rm.hu; show X.A.units + 1 + 1 + d.depth < _; omega) ⟨μ, F, Ext.refl, sr, by rw [List.take_zero]; exact .nil⟩
      (fun H' zs ⟨μ', F', x1, r1, h1⟩ => ⟨⟨X.K, X.w⟩, by rw [List.take_of_length_le (by omega)] at h1; exact h1.same r1.sub⟩) ?turn ?fin
    case turn =>
      rintro i v zs H' s' pins' hv ⟨μ', F', x1, r1, h1⟩ I'
      obtain ⟨xv, hx, rx⟩ : ∃ xv, xs[i]? = some xv ∧ RelV xv v := by
        have hi : i < its.length := (List.getElem?_eq_some_iff.mp hv).1
        obtain ⟨xv, hxv⟩ : ∃ xv, xs[i]? = some xv := ⟨_, List.getElem?_eq_getElem (by rw [rv.length]; exact hi)⟩
        obtain ⟨u, hu, ru⟩ := rv.get hxv
        rw [hv] at hu; cases hu
        exact ⟨xv, hxv, ru⟩
      obtain ⟨d, hdi, dq⟩ := hd.getv hx
      obtain ⟨k1, s2, hk1, hsem, htk⟩ := kg i d hdi
      have q : spF ⟨X.K, X.w⟩ X.mg sem [xv] H' (fun y H'' => ∃ μ' F', Ext μ F H μ' F' H'' ∧ SR ⟨X.K, X.w⟩ μ' F' H'' st ∧ DqAll ⟨X.K, X.w⟩ F' (zs ++ [y]) (ks.take (i + 1))) (fun _ _ _ => False) := by
        refine ⟨[.d d], st, μ', F', .cons (dq.same x1.same) .nil, r1, ?_⟩
        rw [hsem]
        intro y μ2 F2 H2 o
        obtain ⟨c1, c2, c3⟩ := o.sr.cut o.ext st.length r1.len r1.pos
        rw [htk] at c1
        refine ⟨_, F2, x1.trans c2, c1, ?_⟩
        rw [List.take_add_one, hk1]
        exact (h1.same o.ext.same).snoc o.rok
      have hl : ([v] : List Value).length = ps.length := by rw [← G.len _ _ _ _ q]; rfl
      refine wpAny_call (codeAny_mono (G.run X.A.in1.in1 X.stack s' H' ⟨[v], []⟩ [v] [xv] _ (fun _ _ _ => False) rm1 I'.env0.in1.in1 (by have hb' := hb s' [v] I'.kIn (by simpa using hl); rw [List.append_nil] at hb'; exact hb') (.cons rx .nil) q) fun r' s'' hq => ?_)
      cases r' with
      | error e =>
        obtain ⟨_, _, _, _, _, _, _, _, _, _, _, _, z⟩ := hq
        exact z.elim
      | ok fl =>
        cases fl with
        | ret u => exact I'.after hq
        | next => exact False.elim hq
        | brk => exact False.elim hq
        | cont => exact False.elim hq
    case fin =>
      rintro s' H' out c zs I' hob hn ⟨μ', F', x1, r1, h1⟩ ko
      refine ⟨rfl, ?_⟩
      have e0 : EachIs (fun v d => ∃ x, RelV x v ∧ Dq ⟨X.K, X.w⟩ F x d) its (kvs.map (·.1)) := each_dq hd rv
      have e1 : EachIs (fun v (p : PyData × PyData) => ∃ x, RelV x v ∧ Dq ⟨X.K, X.w⟩ F x p.1) its ((kvs.map (·.1)).zip ks) := each_zip kl e0
      have ek : ((kvs.map (·.1)).zip ks).map Prod.snd = ks := List.map_snd_zip (by omega)
      have e2 := keyedOut_each (bs := (kvs.map (·.1)).zip ks) Prod.snd (by rw [ek]; exact ko) e1
      obtain ⟨ys, k1, k2⟩ := of_each (each_fst e2)
      have hlo : out.length = its.length := ko.length (by rw [kl, hlen])
      refine ⟨.ref _, upd H' h'.objs.size (.lst ys), inv_adopt I' (fpOk_at (I1.fpOk (Nat.le_refl _) (H' := H) hn0) hn) ⟨?_, out, c, k1, hob⟩, rfl, q ys _ μ' F' H' (k2.same x1.same) x1 r1 hn hn0⟩
      rw [k1.length, hlo]; exact hL
end
section
variable {X : Cx} {C : Cn} {k j : Nat} {x f : Str} {p pos fpos kpos apos cpos : Pos} {a e tg : Expr} {m : Ev} {sem : Fs} {mas : En → Sto → Res (List Vl)} {μ : Mu} {F H : Hp}
/-- data whose keys are tuples -/
def kdOf : Vl → Option (List (PyData × PyData))
  | .d (.dict kvs) => if gnK kvs = true ∧ kvs ≠ [] then some kvs else none
  | _ => none
theorem kdOf_ok {K : Kw} {μ : Mu} {F : Hp} {x : Vl} {v : V} {kvs : List (PyData × PyData)} (h : Vok K F μ x v) (e : kdOf x = some kvs) : ∃ a r es, v = .ref a ∧ F a = some (dgO K.w r a es) ∧ DqG K F es kvs := by
  cases x with
  | d d =>
    cases d with
    | dict kv =>
      unfold kdOf at e
      simp only at e
      split at e
      · rename_i hh
        cases e
        obtain ⟨hg, hne⟩ := hh
        have h : Dq K F v (.dict kvs) := h
        generalize hk : kvs = kv at h
        cases h with
        | dic _ q =>
          cases q with
          | nil => exact absurd hk hne
          | @cons k v ws d kvs h r =>
            subst hk
            unfold gnK at hg
            rw [List.all_cons, Bool.and_eq_true] at hg
            cases k <;> exact absurd hg.1 (by simp [kD, gnD])
        | dig g1 g2 _ _ => subst hk; exact ⟨_, _, _, rfl, g1, g2⟩
        | ins _ _ _ =>
          subst hk
          unfold gnK at hg
          rw [List.all_cons, Bool.and_eq_true] at hg
          exact absurd hg.1 (by simp [gnD])
      · cases e
    | _ => cases e
  | _ => cases e
theorem wk_keysG {K : Kw} {r : Obj} {a : Addr} {es : List Ge} {kvs : List (PyData × PyData)} (hF : F a = some (dgO K.w r a es)) (hd : DqG K F es kvs) : Wk K (Itgk K.w r a es) (kvs.map (·.1)) none μ F := by
  have hl := lenG hd
  refine ⟨fun i μ1 F1 H1 st1 d x1 r1 k1 e => ?_, fun μ1 F1 H1 st1 x1 r1 k1 => ⟨r1.sub _ _ (x1.same _ _ hF), by rw [List.length_map]; omega⟩⟩
  rw [List.getElem?_map] at e
  obtain ⟨q, hq, rfl⟩ := Option.map_eq_some_iff.mp e
  obtain ⟨g, g1, g2, g3⟩ := idxG hd hq
  refine ⟨⟨r1.sub _ _ (x1.same _ _ hF), (List.getElem?_eq_some_iff.mp g1).1⟩, fun y H2 ⟨e1, g', e2, e3⟩ => ?_⟩
  subst e1
  rw [g1] at e2; cases e2
  subst e3
  exact ⟨F1, Ext.refl, r1, g2.same x1.same⟩
theorem wk_itemsG {K : Kw} {r : Obj} {a : Addr} {es : List Ge} {kvs : List (PyData × PyData)} (hF : F a = some (dgO K.w r a es)) (hd : DqG K F es kvs) : Wk K (Itgi K.w r a es) (itD kvs) none μ F := by
  have hl := lenG hd
  refine ⟨fun i μ1 F1 H1 st1 d x1 r1 k1 e => ?_, fun μ1 F1 H1 st1 x1 r1 k1 => ⟨r1.sub _ _ (x1.same _ _ hF), by unfold itD; rw [List.length_map]; omega⟩⟩
  unfold itD at e
  rw [List.getElem?_map] at e
  obtain ⟨q, hq, rfl⟩ := Option.map_eq_some_iff.mp e
  obtain ⟨g, g1, g2, g3⟩ := idxG hd hq
  refine ⟨⟨r1.sub _ _ (x1.same _ _ hF), (List.getElem?_eq_some_iff.mp g1).1⟩, fun y H2 ⟨T, g', e2, e3, hT, e4⟩ => ?_⟩
  rw [g1] at e2; cases e2
  subst e3 e4
  obtain ⟨s1, y1⟩ := r1.newly (o := .tup [.ref g.2.1, g.2.2]) hT
  obtain ⟨s2, y2, sm⟩ := s1.freeze y1 r1.sub hT upd_same (r1.dead hT).1 (r1.dead hT).2
  exact ⟨_, y2, s2, .tup (.inl upd_same) (.cons ((g2.same x1.same).same sm) (.cons ((g3.same x1.same).same sm) .nil))⟩
def iKd (m : Ev) : En → Sto → Res Src := fun ρ st => (mV m ρ st).bind fun x s => okO ((kdOf x).map fun kvs => (kvs.map (·.1), none)) s
def iIt (m : Ev) : En → Sto → Res Src := fun ρ st => (mV m ρ st).bind fun x s => okO ((kdOf x).map fun kvs => (itD kvs, none)) s
theorem i_kd (h : PE X e (tM C m)) : PI X tg e (tI C (iKd m)) :=
  (pi_keysG (pv_frz h)).imp fun σ H R ⟨ρ, st, μ, F, h1, h2, h3⟩ => ⟨ρ, st, μ, F, h1, h2, Post.bindV gW_lat h3 fun x s v μ1 F1 H1 x1 r1 k1 h4 => by
    cases q : kdOf x with
    | none => rw [q] at h4; exact False.elim h4
    | some kvs =>
      rw [q] at h4
      obtain ⟨a, r, es, rfl, g1, g2⟩ := kdOf_ok k1 q
      exact ⟨_, r, a, es, rfl, r1.sub _ _ g1, h4 _ μ1 F1 H1 Ext.refl r1 (wk_keysG g1 g2)⟩⟩
theorem i_it {elts : List Expr} {kk : Nat} {tpos : Pos} (h : PE X e (tM C m)) (hbase : attributeBase e "items" X.env (eval e X.env) = eval e X.env := by rfl) (hline : (apos.endLine == cpos.line) = true := by rfl) :
    PI X (.Tuple elts kk tpos) (.Call (.Attribute e "items" apos) [] [] cpos) (tI C (iIt m)) :=
  (pi_itemsG (pv_frz h) hbase hline).imp fun σ H R ⟨ρ, st, μ, F, h1, h2, h3⟩ => ⟨ρ, st, μ, F, h1, h2, Post.bindV gW_lat h3 fun x s v μ1 F1 H1 x1 r1 k1 h4 => by
    cases q : kdOf x with
    | none => rw [q] at h4; exact False.elim h4
    | some kvs =>
      rw [q] at h4
      obtain ⟨a, r, es, rfl, g1, g2⟩ := kdOf_ok k1 q
      exact ⟨_, r, a, es, rfl, r1.sub _ _ g1, h4 _ μ1 F1 H1 Ext.refl r1 (wk_itemsG g1 g2)⟩⟩
/-! ### list(d) -/
def rListK (w : World) : List V → Hp → VK → Prop := fun vs H Q => ∃ (K : Kw) (F : Hp) (a : Addr) (o : HO) (kvs : List (PyData × PyData)), vs = [.ref a] ∧ K.w = w ∧ H a = some o ∧ Same F H ∧ DcOk K F a kvs o ∧ gnK kvs = true ∧
  ∀ ys p, DqAll K F ys (kvs.map (·.1)) → H p = none → Q (.ref p) (upd H p (.lst ys))
theorem cr_listK (hc : X.calm = true) : CallR X (.type "list") (rListK X.w) := by
  intro pins s σ H xs us Q I r h
  obtain ⟨K, F, a, o, kvs, rfl, hw, ha, sm, hd, hg, q⟩ := h
  obtain rfl := Vals.ref1 r
  obtain ⟨es, xs, h2, h3, pr, ⟨ob, ar, ep, e1, e2, e3, e4, e5, e6⟩, hl, low, _⟩ := dc_gen I.hok sm hw ha hd hg
  have lx : es.length = xs.length := Paired.length pr
  have la : ar.size = xs.length := by rw [← Array.length_toList, e4, List.length_map]
  have lk : ar.size = kvs.length := by rw [la, ← lx, lenG h2]
  refine PySem.W.kdl_call (kdl_raw (ep := ep) low e2 e3) (I.ok.hd hc) e1 (by omega) fun h' tk acc c' kp e hacc => ?_
  have hal : acc.toList.length = kvs.length := by rw [Array.length_toList, hacc.1, lk]
  have er0 : EachIs (fun v d => ∃ x, RelV x v ∧ Dq K F x d) acc.toList (kvs.map (·.1)) := by
    refine each_idx (by rw [hal, List.length_map]) fun j v d h1 h2' => ?_
    rw [List.getElem?_map] at h2'
    obtain ⟨qq, hq, rfl⟩ := Option.map_eq_some_iff.mp h2'
    obtain ⟨g, g1, g2, g3⟩ := idxG h2 hq
    obtain ⟨x, x1, x2, x3, x4⟩ := idxP pr g1
    obtain ⟨en, hj, ev⟩ := hacc.2 j v (by rw [← Array.getElem?_toList]; exact h1)
    rw [← Array.getElem?_toList, e4, List.getElem?_map, x1] at hj
    have t1 := (Option.some.inj hj).symm
    rw [ev, t1]
    exact ⟨_, by first | (rw [x3]; rfl) | rfl | (show RelV _ _; rw [x3]; exact rfl), g2⟩
  obtain ⟨ys, rv, hd'⟩ := of_each er0
  refine ⟨.ref s.heap.objs.size, _, I.laid (t' := tk) (o := .lst ys) kp (Nat.le_refl _) ?_, rfl, q ys _ hd' (I.hok.fresh (Nat.le_refl _))⟩
  exact ⟨by rw [rv.length, hal]; omega, acc.toList, c', rv, by rw [Array.toArray_toList]; exact e⟩
def fListK (d : PyData) : Option Rv := match d with
  | .dict kvs => if gnK kvs = true then some (.n (.l (kvs.map (·.1)))) else none
  | _ => none
theorem fListK_ok {w : World} (hw : C.K.w = w) : CallOk C (rListK w) (g1 fListK) := g1_ok fun d res v μ F H st Q s hv e pp => by
  cases d with
  | dict kvs =>
    have e : (if gnK kvs = true then some (Rv.n (.l (kvs.map (·.1)))) else none) = some res := e
    split at e
    · rename_i hg
      cases e
      obtain ⟨a, o, rfl, ha, hd⟩ : ∃ a o, v = .ref a ∧ H a = some o ∧ DcOk C.K F a kvs o := by
        rcases gn_ok hg with rfl | ⟨kd, hk⟩
        · exact dict_at (kd := .int 0) hv (by decide)
        · exact dict_at (kd := kd) hv hk
      exact ⟨C.K, F, a, o, kvs, rfl, hw, ha, s.sub, hd, hg, fun ys q hk hq => fin_n s pp hq ⟨_, rfl, hk⟩⟩
    · cases e
  | _ => cases e
theorem k_listK (B : Bd k X C) (hg : Gl X "list") (hm : X.mg "list" = none) (ha : PA X [a] (tAs C mas)) (he : starEach [a] X.env = (false, eval a X.env) :: starEach [] X.env := by rfl) (hpl : NA X [] pos := by rfl) : PE X (.Call (.Name "list" p) [a] [] pos) (tM C (mCal (g1 fListK) mas)) :=
  s_callTy (cr_listK B.cm) (fListK_ok B.hw) hg hm (by decide +kernel) ha (by decide) (by decide) he hpl
/-! ### sorted(d, key=f) -/
open Classical in
noncomputable def fSrtKD (sem : Fs) (s : Sto) (x : Vl) : Option Rv := match x with
  | .d (.dict kvs) => if gnK kvs = true then (match keysOf sem s (kvs.map (·.1)) with
    | some ks => if Srtk ks then some (.n (.l (sortK (kvs.map (·.1)) ks))) else none
    | none => none) else none
  | _ => none
noncomputable def mSrtKD (sem : Fs) (m : Ev) : Ev := fun ρ st => (mV m ρ st).bind fun x s => match fSrtKD sem s x with
  | some r => .ok r s
  | none => .no
theorem s_sortKD (B : Bd k X C) (G : Kn X.prog X.w X.K X.mg X.base f j sem) (hj : j + 2 ≤ k) (hf : Gl X f) (hg : Gl X "sorted") (hm : X.mg "sorted" = none) (ha : PE X a (tM C m)) (hdb : (f == ("__debug__" : Str)) = false := by decide)
    (he : backTo pos (starEach [a] X.env) = (false, eval a X.env) :: backTo pos (starEach [] X.env) := by rfl) (hpl : (backTo pos (starEach [a] X.env)).any (·.1) = false := by rfl)
    (hs : starEach [a] X.env = (false, eval a X.env) :: starEach [] X.env := by rfl)
    (hall : (backToKw pos (keywordEach [⟨some "key", .Name f fpos, kpos⟩] X.env)).all (·.1.isSome) = true := by rfl) (hnone : (backToKw pos (keywordEach [⟨some "key", .Name f fpos, kpos⟩] X.env)).any (·.1.isNone) = false := by rfl)
    (hks : (backToKw pos (keywordEach [⟨some "key", .Name f fpos, kpos⟩] X.env)).filterMap (·.1) = [Str.ofString "key"] := by rfl) :
    PE X (.Call (.Name "sorted" p) [a] [⟨some "key", .Name f fpos, kpos⟩] pos) (tM C (mSrtKD sem m)) := by
  obtain ⟨fa, fd, ps, hmf, hkp, hb, G⟩ := G
  refine (pe_callBK (cr_srtKD B hkp hb G hj) hg hm (by decide +kernel) (a_cons ha a_nil hs) (pk_cons (pe_glob hf hmf (v := .ref fa) rfl hdb) pk_nil) (by decide) (by decide) he hpl hall hnone hks).imp fun σ H Q ⟨ρ, st, μ, F, h1, h2, h3⟩ => ⟨ρ, st, μ, F, h1, h2, ?_⟩
  show PostA (C.at σ) _ μ F H (aCons (mV m) aNil ρ st)
  have h3 : PostE (C.at σ) Q μ F H ((mV m ρ st).bind fun x s => match fSrtKD sem s x with
    | some r => .ok r s
    | none => .no) := h3
  show PostA (C.at σ) _ μ F H ((mV m ρ st).bind fun x s1 => (aNil ρ s1).bind fun xs s2 => .ok (x :: xs) s2)
  cases q : mV m ρ st with
  | no => rw [q] at h3; exact h3
  | er e s => rw [q] at h3; exact h3
  | ok y s1 =>
    rw [q] at h3
    have h3 : PostE (C.at σ) Q μ F H (match fSrtKD sem s1 y with
      | some r => .ok r s1
      | none => .no) := h3
    intro vs μ1 F1 H1 x1 r1 k1
    obtain ⟨v, rfl, hv⟩ := k1.one
    show rSrtKD X C (.ref fa) sem [v] [.ref fa] H1 Q
    cases y with
    | d d =>
      cases d with
      | dict kvs =>
        unfold fSrtKD at h3
        simp only at h3
        by_cases hgn : gnK kvs = true
        case neg => rw [if_neg hgn] at h3; exact False.elim h3
        rw [if_pos hgn] at h3
        obtain ⟨b, o, rfl, hb1, hd⟩ := dq_dict (view_ok r1 hv (show view s1 (.d (.dict kvs)) = some (.dict kvs) from rfl)) hgn
        cases q2 : keysOf sem s1 (kvs.map (·.1)) with
        | none => simp only [q2] at h3; exact False.elim h3
        | some ks =>
          simp only [q2] at h3
          by_cases hs : Srtk ks
          · rw [if_pos hs] at h3
            refine ⟨s1, μ1, F1, b, o, kvs, ks, rfl, .cons rfl .nil, hb1, hd, hgn, r1, q2, hs, fun ys pp μ' F' H' d1 x2 r2 n1 n2 => ?_⟩
            have hdd := r2.dead n1
            obtain ⟨s3, x3⟩ := r2.newly (p := pp) (o := .lst ys) n1
            exact h3 (.ref pp) _ _ _ ⟨(x1.trans x2).trans x3, s3, ⟨pp, _, rfl, upd_same, ⟨ys, rfl, d1⟩, hdd.1, hdd.2⟩, fun _ _ => ⟨pp, rfl, x1.dom pp n2⟩⟩
          · rw [if_neg hs] at h3; exact False.elim h3
      | _ => exact False.elim h3
    | _ => exact False.elim h3
end
section
variable {E : Er → Sto → Prop} {ρ : En} {st : Sto} {P : Src → Sto → Prop} {PE : Rv → Sto → Prop} {m : Ev} {sem : Fs}
@[simp] theorem W_iKd : WVe E (iKd m ρ st) P = WVe E (m ρ st) fun r s => WO (kdOf (frz r)) fun kvs => P (kvs.map (·.1), none) s := by
  unfold iKd; rw [WV_bind, W_mV]
  congr 1; funext r s
  cases kdOf (frz r) <;> rfl
@[simp] theorem W_iIt : WVe E (iIt m ρ st) P = WVe E (m ρ st) fun r s => WO (kdOf (frz r)) fun kvs => P (itD kvs, none) s := by
  unfold iIt; rw [WV_bind, W_mV]
  congr 1; funext r s
  cases kdOf (frz r) <;> rfl
theorem W_mSrtKD : WVe E (mSrtKD sem m ρ st) PE = WVe E (m ρ st) fun r s => WO (fSrtKD sem s (frz r)) fun r => PE r s := by
  unfold mSrtKD; rw [WV_bind, W_mV]
  congr 1; funext r s
  cases fSrtKD sem s (frz r) <;> rfl
@[simp] theorem fListK_d (kvs : List (PyData × PyData)) : fListK (.dict kvs) = if gnK kvs = true then some (.n (.l (kvs.map (·.1)))) else none := rfl
end
end Cp
/-! Cdg: {k: v for .. in ..}, {k: v}, the keys tuples. -/
namespace Cp
open PySem L2
open PySem.Spec PyProof.Rows
section
variable {X : Cx}
/-- a dict's place is written by a comprehension -/
theorem d_dput {pins : List (Addr × Obj)} {σ : L2.St} {s : Shared} {K : Kw} {F H : Hp} {a : Addr} {o : HO} {kvs : List (PyData × PyData)} {kd dv : PyData} {x v : V} {u r : Value} {Q : Unit → Shared → Prop} {E : Value → Shared → Prop} (hu : X.A.units + 64 < cLine) (I : L2.Inv X pins σ H s) (hw : K.w = X.w) (ha : H a = some o) (sub : Same F H) (hc : DcOk K F a kvs o)
    (hk : Dq K F x kd) (ok : okK kvs kd = true) (hl : kvs.length < sizeLine) (hv : Dq K F v dv) (rx : RelV x u) (rv : RelV v r) (h : ∀ o' s', DcOk K F a (putD kvs kd dv) o' → L2.Inv X pins σ (upd H a o') s' → Q () s') :
    wpAny (model X.prog X.w) X.A (dictSet a u r) Q E s := by
  rcases okK_or ok with ⟨f, k, ek⟩ | ⟨g, gk⟩
  · obtain ⟨ws, rfl, hd⟩ := hc.flat f
    obtain ⟨rfl, rfl⟩ := keyD_ok hk ek
    have hlen : ws.length = kvs.length := dqKv_len hd
    exact d_dictSet I ha (by omega) rx rv fun s' I' => h _ s' (.inl ⟨_, rfl, put_flat hd hv⟩) I'
  · obtain ⟨ds, ks, rfl, ek, hdep⟩ := gnD_ok gk
    obtain ⟨es, xs, h1, h2, h3, h4, h5, h6, h7⟩ := dc_gen (P := X.prog) I.hok sub hw ha hc g
    obtain ⟨b, rfl⟩ : ∃ b, x = .ref b := by cases hk; exact ⟨_, rfl⟩
    cases rx
    have hlen : es.length = kvs.length := lenG h1
    refine wpAny_dictSet_heap (knd := nestedKind X.prog X.w) (hsz := by rw [← Paired.length h3]; exact h5) (show X.A.units + 8 < cLine by omega) ⟨Dq.nest I.hok (hk.same sub) rfl ek, hdep⟩ h4 fun h' dd' hs => ?_
    have hp := putX h3 (.tup ks) b rv
    have hlp : (putG es (.tup ks) b v).length ≤ sizeLine := by have := @putG_len es (.tup ks) b v; omega
    obtain ⟨ob, ar, ep, e1, e2, e3, e4, _, _⟩ := dd'
    refine h (dgO K.w ob a (putG es (.tup ks) b v)) _ (.inr ⟨_, ⟨_, rfl⟩, putG_ok ek hdep hk hv h1, putG_nodup h2, putG_ne⟩) (d_write I h7 hs ⟨ob, e1⟩ ?_)
    refine ⟨⟨hlp, h6, _, ob, ar, ep, hp, ⟨e1, rfl⟩, e2, e3, by rw [e4, hw]; rfl⟩, ⟨ob, e1⟩, fun g1 g2 ⟨l1, l2, ys, oz, az, ez, z1, z2, z3, z4, z5⟩ st => ⟨l1, l2, ys, oz, az, ez, z1, ⟨st _ z2.1, z2.2⟩, z3, z4, z5⟩⟩
def PutAt (w : World) (H : Hp) (D : Addr) (y z : V) (Nx : Hp → Prop) : Prop := ∃ (KK : Kw) (F : Hp) (ob : HO) (kvs : List (PyData × PyData)) (kd dv : PyData), KK.w = w ∧ H D = some ob ∧ Same F H ∧ DcOk KK F D kvs ob ∧ Dq KK F y kd ∧ okK kvs kd = true ∧ kvs.length < sizeLine ∧ Dq KK F z dv ∧ ∀ o', DcOk KK F D (putD kvs kd dv) o' → Nx (upd H D o')
def tDcG (w : World) (wi : TI) (g : TG) (tt : TT) (tk tv : TE) (vs : List Nat) : TE := fun σ H Q => wi σ H fun J H1 => ∀ D, H1 D = none → ∃ W : Nat → Nat → Hp → Prop, (∃ m, W 0 m (upd H1 D (.dK []))) ∧ ∀ i m H, W i m H →
  (J.stop i H ∧ Q (.ref D) H) ∨ (J.go i H ∧ ∃ Nx : Hp → Prop, (∀ H', Nx H' → ∃ m', m' < m ∧ W (i + 1) m' H') ∧ ∀ x H', J.yld i H x H' → g x (wipe σ vs) H' fun σ2 H2 => wipe σ2 vs = wipe σ vs ∧ tt σ2 H2 fun b H3 =>
    if b = true then tk σ2 H3 fun y H4 => tv σ2 H4 fun z H5 => PutAt w H5 D y z Nx else Nx H3)
end
end Cp
namespace L2
open PySem PySem.Spec PyProof.Rows
section
variable {X : Cx}
theorem dcG_core {pins : List (Addr × Obj)} {s : Shared} {σ : St} {H : Hp} {Q : VK} {kx vx tg iter : Expr} {ifs : List Expr} {scope : Scope} {own : List (Str × Nat)} {pos pos' : Pos} {wi : TI} {g : TG} {tt : TT} {tk tv : TE} {use : Option (Value → Sem Unit)} {Qf : Value → Shared → Prop}
    (hc : X.calm = true) (hN : X.N.Nodup) (I : Inv X pins σ H s) (hi : PI X tg iter wi) (ok : BlkOk X.N X.env.scope scope own)
    (hg : ∀ (s : Shared) (H : Hp) (C : Addr) (cl : List (Str × Addr)) (fp : List Addr), PG (X.blk s H scope (compEnvC scope cl C X.env) fp) tg g) (ht : ∀ (s : Shared) (H : Hp) (C : Addr) (cl : List (Str × Addr)) (fp : List Addr), PTs (X.blk s H scope (compEnvC scope cl C X.env) fp) ifs tt)
    (hk : ∀ (s : Shared) (H : Hp) (C : Addr) (cl : List (Str × Addr)) (fp : List Addr), PE (X.blk s H scope (compEnvC scope cl C X.env) fp) kx tk)
    (he : ∀ (s : Shared) (H : Hp) (C : Addr) (cl : List (Str × Addr)) (fp : List Addr), PE (X.blk s H scope (compEnvC scope cl C X.env) fp) vx tv) (hs : ∀ x, foldedSetIterable iter X.env x = pure x)
    (h : Cp.tDcG X.w wi g tt tk tv (own.map (·.2)) σ H Q) (hu : X.A.units + 64 < cLine)
    (hRR : ∀ D C s' m H', Inv X pins σ H' s' → Q (.ref D) H' → s'.heap.Ns C m → FpOk X pins H' C → compPost (model X.prog X.w) X.A X.xe use Qf (.ref D) C (.ok .next) s') :
    wpAny (model X.prog X.w) X.A (comprehension (.DictComp kx vx [⟨tg, iter, ifs, 0⟩] scope pos) scope X.env pos' newDict false (eval iter X.env) use) Qf X.xe s := by
  have hfree : ∀ y ∈ scope.names, y.2 = .free → ∃ c, X.env.cells.lookup y.1 = some c := fun y hy e => by
    rcases ok.free y hy e with k | k
    · exact I.ok.has _ (.inl k)
    · exact I.ok.has _ (.inr k)
  refine wpAny_comprehension_free (use := use) rfl hs (closure_ok hfree) ok.kind (fun y hy e => by rw [ok.uniq y hy, e])
    (thn (hi.run pins s σ H _ I h) fun xv s1 hx => thn hx fun itv s2 h2 => ?_)
  obtain ⟨it, fp, tn, J, H2, e, I2, T, st2, f2, q⟩ := h2
  subst e
  refine wpAny_newObj_type (newEnv_comp ?_)
  generalize hD : s2.heap.objs.size = D
  have hDn : H2 D = none := I2.hok.fresh (Nat.le_of_eq hD)
  obtain ⟨W, ⟨m0, w0⟩, turn⟩ := q D hDn
  -- the new list
  generalize hs3 : ({ s2 with heap := s2.heap.push { cls := .type "dict", data := .dict #[] } } : Shared) = s3
  have I3 : Inv X pins σ (upd H2 D (.dK [])) s3 := by
    rw [← hs3]
    refine I2.laid (t' := s2.toks) (fun b o e => Heap.get?_push_of_some _ e) (Nat.le_of_eq hD) ?_
    rw [← hD]
    exact dk_empty s2.heap I2.big
  have h3 : s3.heap = s2.heap.push { cls := .type "dict", data := .dict #[] } := by rw [← hs3]
  have sz : ∀ b ∈ fp, b < s2.heap.objs.size := fun b hb => by
    obtain ⟨o, e, _⟩ := T.obj _ _ st2 b hb
    exact Heap.lt_size e
  have f3 : ∀ b ∈ fp, FpOk X pins (upd H2 D (.dK [])) b ∧ b < s3.heap.objs.size := fun b hb => by
    have hlt := sz b hb
    refine ⟨⟨?_, (f2 b hb).2⟩, by rw [h3, Heap.size_push]; exact Nat.lt_succ_of_lt hlt⟩
    rw [upd_ne (by rw [← hD]; exact Nat.ne_of_lt hlt)]
    exact (f2 b hb).1
  have st3 : tn 0 s3.heap := T.keep _ _ _ st2 fun b _ o e => by rw [h3]; exact Heap.get?_push_of_some _ e
  have I4 := block_start I3 ok hN f3
  have pg := hg s3 (upd H2 D (.dK [])) s3.heap.objs.size (cellsFrom (s3.heap.objs.size + 1) scope.names (cloFrom X.env.cells scope.names [])) fp
  have pt := ht s3 (upd H2 D (.dK [])) s3.heap.objs.size (cellsFrom (s3.heap.objs.size + 1) scope.names (cloFrom X.env.cells scope.names [])) fp
  have pk := hk s3 (upd H2 D (.dK [])) s3.heap.objs.size (cellsFrom (s3.heap.objs.size + 1) scope.names (cloFrom X.env.cells scope.names [])) fp
  have pe := he s3 (upd H2 D (.dK [])) s3.heap.objs.size (cellsFrom (s3.heap.objs.size + 1) scope.names (cloFrom X.env.cells scope.names [])) fp
  show codeAny _ _ (.compStart (.DictComp kx vx [⟨tg, iter, ifs, 0⟩] scope pos) 0 (.ref it) (.ref D) (compEnvC scope (cellsFrom (s3.heap.objs.size + 1) scope.names (cloFrom X.env.cells scope.names [])) s3.heap.objs.size X.env)) (compPost (model X.prog X.w) X.A X.xe use Qf (.ref D) s3.heap.objs.size) { s3 with heap := pushCells (s3.heap.push { cls := .type "dict", data := .dict #[] }) scope.names }
  have nfp : ∀ b ∈ fp, (upd H2 D (.dK [])) b = none := fun b hb => (f3 b hb).1.1
  generalize hce : compEnvC scope (cellsFrom (s3.heap.objs.size + 1) scope.names (cloFrom X.env.cells scope.names [])) s3.heap.objs.size X.env = ce at I4 pg pt pk pe ⊢
  have cL : ce.locals = s3.heap.objs.size := by subst hce; rfl
  generalize hH3 : upd H2 D (.dK []) = H3 at I3 I4 pg pt pk pe w0 nfp f3
  generalize hs4 : ({ s3 with heap := pushCells (s3.heap.push { cls := .type "dict", data := .dict #[] }) scope.names } : Shared) = s4 at I4 ⊢
  have st4 : tn 0 s4.heap := T.keep _ _ _ st3 fun b _ o e => by rw [← hs4]; exact pushCells_keeps _ _ _ _ (Heap.get?_push_of_some _ e)
  have stat : ∀ {σ' : St} {H' : Hp} {s' : Shared}, Inv (X.blk s3 H3 scope ce fp) [] σ' H' s' → (∀ b ∈ fp, H' b = none) → ∀ b ∈ fp, FpOk (X.blk s3 H3 scope ce fp) [] H' b := fun {σ' H' s'} I' hn b hb =>
    ⟨hn b hb, (I'.ok.exf b hb).1, I'.ok.exfs b hb, .inl hb, fun x c e => (I'.ok.exf b hb).2 x c e, fun p hp => absurd (show p ∈ ([] : List (Addr × Obj)) ++ [] from hp) (by simp)⟩
  have loop : codeAny (model X.prog X.w) X.A (.compLoop (.DictComp kx vx [⟨tg, iter, ifs, 0⟩] scope pos) 0 (.ref it) (.ref D) ce) (compPost (model X.prog X.w) X.A X.xe use Qf (.ref D) s3.heap.objs.size) s4 := by
    refine compLoop_anyD (fun n s' => ∃ i H', Inv (X.blk s3 H3 scope ce fp) [] (wipe σ (own.map (·.2))) H' s' ∧ tn i s'.heap ∧ (∀ b ∈ fp, H' b = none) ∧ W i n H') ?_ m0 ⟨0, H3, I4, st4, nfp, w0⟩
    rintro n s5 ⟨i, H5, I5, st5, n5, w5⟩
    rcases turn i n H5 w5 with ⟨stop, qq⟩ | ⟨go, Nx, hNx, step⟩
    · have td := T.done (X.blk s3 H3 scope ce fp) rfl rfl rfl hc i [] s5 _ H5 (fun _ _ => False) I5 (stat I5 n5) st5 stop
      refine thnF td fun r s6 ⟨hr, I6⟩ => ?_
      subst hr
      -- back in the def's context
      have I7 : Inv X pins σ H5 s6 := I3.call' (ch := fp) I6.os I6.base I6.hok I6.bare fun b hb => ⟨(f3 b hb).1.2.2.2.1, (f3 b hb).1.2.1, (f3 b hb).1.2.2.2.2.1, (f3 b hb).1.2.2.2.2.2⟩
      have nC : H5 s3.heap.objs.size = none := by
        have z : H5 ce.locals = none := I6.free
        rw [cL] at z
        exact z
      obtain ⟨m, hn, _⟩ := I6.loc
      have hn : s6.heap.Ns ce.locals m := hn
      rw [cL] at hn
      exact hRR D s3.heap.objs.size s6 m H5 I7 qq hn (I3.fpOk (Nat.le_refl _) nC)
    · have ti := T.item (X.blk s3 H3 scope ce fp) rfl rfl rfl hc i [] s5 _ H5 (fun _ _ => False) I5 (stat I5 n5) st5 go
      refine thnF ti fun r s6 ⟨u, hr, h6⟩ => ?_
      subst hr
      refine thnF h6 fun _ s7 ⟨x, H7, I7, r7, y7, st7, n7⟩ => ?_
      have I7' := I7.pinned (stat I7 n7) (T.obj _ _ st7)
      refine thnF (pg.run _ s7 _ H7 x u _ I7' r7 (step x H7 y7)) fun _ s8 ⟨σ8, H8, I8, hw8, q8⟩ => ?_
      refine thnF (pt.run _ s8 σ8 H8 _ I8 q8) fun b s9 ⟨H9, I9, q9⟩ => ?_
      -- the turn's end
      have fin : ∀ {s' : Shared} {H' : Hp}, Inv (X.blk s3 H3 scope ce fp) ([] ++ pinsAt fp s7.heap) σ8 H' s' → Nx H' → ∃ m, m < n ∧ ∃ i H', Inv (X.blk s3 H3 scope ce fp) [] (wipe σ (own.map (·.2))) H' s' ∧ tn i s'.heap ∧ (∀ b ∈ fp, H' b = none) ∧ W i m H' := fun {s' H'} I' nx => by
        obtain ⟨m', hm, w'⟩ := hNx H' nx
        have pin' : ∀ b ∈ fp, ∀ o, s7.heap.get? b = some o → s'.heap.get? b = some o ∧ H' b = none := fun b hb o e =>
          let z := I'.pin (b, o) (List.mem_append_right _ (List.mem_append_right _ (mem_pinsAt hb e)))
          ⟨z.1, z.2.1⟩
        have hl : (wipe σ (own.map (·.2))).length = σ8.length := by rw [← hw8, wipe_length]
        refine ⟨m', hm, i + 1, H', (I'.unpinned (pins := [])).weak hl (fun j v e => ?_), T.keep _ _ _ st7 fun b hb o e => (pin' b hb o e).1, fun b hb => ?_, w'⟩
        · rw [← hw8] at e
          exact (wipe_some e).1
        · obtain ⟨o, e, _⟩ := T.obj _ _ st7 b hb
          exact (pin' b hb o e).2
      cases b with
      | false =>
        simp only [Bool.false_eq_true, if_false] at q9 ⊢
        exact fin I9 q9
      | true =>
        simp only [if_true] at q9 ⊢
        refine thnF (pk.run _ s9 σ8 H9 _ I9 q9) fun z s10 ⟨yk, H10, I10, r10, q10⟩ => ?_
        refine thnF (pe.run _ s10 σ8 H10 _ I10 q10) fun z2 s11 ⟨yv, H11, I11, r11, KK, FF, obb, kvs, kd, dv, hw, hDD, hsm, hdc, hkd, hok, hz11, hdv, nx⟩ => ?_
        exact Cp.d_dput (X := X.blk s3 H3 scope ce fp) hu I11 hw hDD hsm hdc hkd hok hz11 hdv r10 r11 fun o' s12 hc' I12 => fin I12 (nx o' hc')
  exact codeAny_compStart_dict loop (T.self X.A 0 _ _ _ st4 loop)
/-- as a value -/
theorem pe_dcG {kx vx tg iter : Expr} {ifs : List Expr} {scope : Scope} {own : List (Str × Nat)} {pos : Pos} {wi : TI} {g : TG} {tt : TT} {tk tv : TE} (hc : X.calm = true) (hN : X.N.Nodup) (hi : PI X tg iter wi) (ok : BlkOk X.N X.env.scope scope own)
    (hg : ∀ (s : Shared) (H : Hp) (C : Addr) (cl : List (Str × Addr)) (fp : List Addr), PG (X.blk s H scope (compEnvC scope cl C X.env) fp) tg g) (ht : ∀ (s : Shared) (H : Hp) (C : Addr) (cl : List (Str × Addr)) (fp : List Addr), PTs (X.blk s H scope (compEnvC scope cl C X.env) fp) ifs tt)
    (hk : ∀ (s : Shared) (H : Hp) (C : Addr) (cl : List (Str × Addr)) (fp : List Addr), PE (X.blk s H scope (compEnvC scope cl C X.env) fp) kx tk)
    (he : ∀ (s : Shared) (H : Hp) (C : Addr) (cl : List (Str × Addr)) (fp : List Addr), PE (X.blk s H scope (compEnvC scope cl C X.env) fp) vx tv) (hu : X.A.units + 64 < cLine) (hs : ∀ x, foldedSetIterable iter X.env x = pure x := by intro _; rfl) :
    PE X (.DictComp kx vx [⟨tg, iter, ifs, 0⟩] scope pos) (Cp.tDcG X.w wi g tt tk tv (own.map (·.2))) := by
  refine ⟨fun pins s σ H Q I h => ?_⟩
  rw [arm_eval_DictComp]
  refine dcG_core hc hN I hi ok hg ht hk he hs h hu fun D C s' m H' I' q hn f => ⟨m, hn, fun h'' sb => ?_⟩
  obtain ⟨f0, f1, f2, f3, f4, f5⟩ := f
  exact ⟨.ref D, H', I'.turned (t' := s'.toks) (fun b o hb e => (sb.2 b hb).trans e) f0 f1 f3 f4 f5, rfl, q⟩
/-- name = {..} on one line, the name a local -/
theorem ps_setDcG {i : Nat} {y : Str} {py : Pos} {kx vx tg iter : Expr} {ifs : List Expr} {scope : Scope} {own : List (Str × Nat)} {pos spos : Pos} {wi : TI} {g : TG} {tt : TT} {tk tv : TE} (hc : X.calm = true) (hN : X.N.Nodup) (hy : X.N[i]? = some y) (hyl : X.env.scope.names.lookup y = some .local)
    (hsw : swapsWith (.DictComp kx vx [⟨tg, iter, ifs, 0⟩] scope pos) (some (.Name y py)) spos.line X.env = pure true) (hi : PI X tg iter wi) (ok : BlkOk X.N X.env.scope scope own)
    (hg : ∀ (s : Shared) (H : Hp) (C : Addr) (cl : List (Str × Addr)) (fp : List Addr), PG (X.blk s H scope (compEnvC scope cl C X.env) fp) tg g) (ht : ∀ (s : Shared) (H : Hp) (C : Addr) (cl : List (Str × Addr)) (fp : List Addr), PTs (X.blk s H scope (compEnvC scope cl C X.env) fp) ifs tt)
    (hk : ∀ (s : Shared) (H : Hp) (C : Addr) (cl : List (Str × Addr)) (fp : List Addr), PE (X.blk s H scope (compEnvC scope cl C X.env) fp) kx tk)
    (he : ∀ (s : Shared) (H : Hp) (C : Addr) (cl : List (Str × Addr)) (fp : List Addr), PE (X.blk s H scope (compEnvC scope cl C X.env) fp) vx tv) (hu : X.A.units + 64 < cLine) (hs : ∀ x, foldedSetIterable iter X.env x = pure x := by intro _; rfl) :
    PS X (.Assign [.Name y py] (.DictComp kx vx [⟨tg, iter, ifs, 0⟩] scope pos) spos) (tAsg (Cp.tDcG X.w wi g tt tk tv (own.map (·.2))) (gName i)) := by
  refine ⟨fun pins s σ H D I h => ?_⟩
  rw [exec_Assign_Name_used _ _ _ _ hsw]
  refine wpAny_bind (wpAny_standAt (wpAny_bind ?_))
  show wpAny _ X.A (do let _ ← comprehension (.DictComp kx vx [⟨tg, iter, ifs, 0⟩] scope pos) scope X.env (firstIterPos [⟨tg, iter, ifs, 0⟩] pos) newDict false (eval iter X.env) (some (assign (.Name y py) X.env))) _ _ s
  have h : Cp.tDcG X.w wi g tt tk tv (own.map (·.2)) σ H (fun x H1 => gName i x σ H1 D.nx) := h
  refine wpAny_bind (thn (dcG_core (Qf := fun _ s' => SP X pins D .next s') hc hN I hi ok hg ht hk he hs h hu fun L C s' m H' I' q hn f => ?_) fun _ s' hq => wpAny_pure (wpAny_pure hq))
  show wpAny _ _ (assign (.Name y py) X.env (.ref L)) _ _ _
  refine wpAny_assign_Name (store_ok2 (v := V.ref L) I' hN hy (.inl hyl) rfl (fun s2 I2 ⟨a, sb, ha⟩ => ?_) (.inr hyl))
  obtain ⟨f0, f1, f2, f3, f4, f5⟩ := f
  have haC : C ≠ a := by
    rcases ha with z | z
    · rw [z]; exact f1
    · exact fun e => f4 y a z e.symm
  refine ⟨m, hn.sameBut sb haC, fun h3 sb3 => ?_⟩
  exact ⟨_, H', I2.turned (t' := s2.toks) (fun b o hb e => (sb3.2 b hb).trans e) f0 f1 f3 f4 f5, q⟩
end
end L2
namespace Cp
open PySem L2
open Classical in
noncomputable def dcGo (g : Gm) (tt : En → Sto → Res Bool) (tk te : Ev) (gd : Option (Nat × List PyData)) (all : List PyData) (ρ : En) : List PyData → Sto → List (PyData × PyData) → Res (List (PyData × PyData))
  | [], st, acc => if Grd gd all st then .ok acc st else .no
  | d :: r, st, acc => if Grd gd all st then (match g (.d d) ρ st with
      | .ok ρ1 s1 => match tt ρ1 s1 with
        | .ok true s2 => match mV tk ρ1 s2 with
          | .ok (.d k) s3 => match mV te ρ1 s3 with
            | .ok (.d y) s4 => if okK acc k = true ∧ acc.length < sizeLine then dcGo g tt tk te gd all ρ r s4 (putD acc k y) else .no
            | _ => .no
          | _ => .no
        | .ok false s2 => dcGo g tt tk te gd all ρ r s2 acc
        | _ => .no
      | _ => .no) else .no
noncomputable def mDcG (mi : En → Sto → Res Src) (g : Gm) (tt : En → Sto → Res Bool) (tk te : Ev) (vs : List Nat) : Ev := fun ρ st => (mi ρ st).bind fun dg s => (dcGo g tt tk te dg.2 dg.1 (wipeE ρ vs) dg.1 s []).bind fun ys s' => .ok (.n (.m ys)) s'
/-- the state within the loop: the dict L so far -/
structure DgI (C : Cn) (μ' : Mu) (F' H' : Hp) (L : Addr) (ρ : En) (σ : L2.St) (acc : List (PyData × PyData)) (H : Hp) (st : Sto) (μ1 : Mu) (F1 : Hp) : Prop where
  x : Ext μ' F' H' μ1 F1 H
  r : SR C.K μ1 F1 H st
  k : Eok C.K F1 μ1 ρ σ
  l : ∃ o, H L = some o ∧ DcOk C.K F1 L acc o
  f : F1 L = none
  m : L ∉ μ1
section
variable {X : Cx} {C : Cn} {tg iter kx vx : Expr} {pos : Pos} {H H1 : Hp} {st : Sto} {μ1 : Mu} {F1 : Hp} {k : Nat}
theorem DgI.later {μ' : Mu} {F' H' : Hp} {L : Addr} {ρ : En} {σ : L2.St} {acc : List (PyData × PyData)} {μ2 : Mu} {F2 H2 : Hp} {st2 : Sto} (i : DgI C μ' F' H' L ρ σ acc H st μ1 F1) (x : Ext μ1 F1 H μ2 F2 H2) (r : SR C.K μ2 F2 H2 st2) : DgI C μ' F' H' L ρ σ acc H2 st2 μ2 F2 := by
  obtain ⟨xs, h1, h2⟩ := i.l
  obtain ⟨k1, k2, k3⟩ := x.keepOut h1 i.f i.m
  exact ⟨i.x.trans x, r, i.k.ext x, ⟨xs, k1, DcOk.same x.same h2⟩, k2, k3⟩
theorem DgI.put {μ' : Mu} {F' H' : Hp} {L : Addr} {ρ : En} {σ : L2.St} {acc acc' : List (PyData × PyData)} {o' : HO} (h0 : H' L = none) (i : DgI C μ' F' H' L ρ σ acc H st μ1 F1) (hv : DcOk C.K F1 L acc' o') :
    DgI C μ' F' H' L ρ σ acc' (upd H L o') st μ1 F1 := by
  obtain ⟨xs, h1, h2⟩ := i.l
  exact ⟨i.x.out h0 (.inr trivial), i.r.out i.f i.m, i.k, ⟨_, upd_same, hv⟩, i.f, i.m⟩
theorem s_dcT {scope : Scope} {own : List (Str × Nat)} {mi : En → Sto → Res Src} {ws : List Nat} {g : Gm} {tt : En → Sto → Res Bool} {tk te : Ev} {w : World} (hw : C.K.w = w) (hws : ∀ i, i ∈ ws → i ∈ own.map (·.2)) (σ : L2.St) (H : Hp) (Q : VK) (h : tM C (mDcG mi g tt tk te (own.map (·.2))) σ H Q) :
    tDcG w (tI C mi) (tG C.quiet ws g) (tT C.quiet tt) (tV C.quiet (mV tk)) (tV C.quiet (mV te)) (own.map (·.2)) σ H Q := by
  obtain ⟨ρ, st, μ, F, h1, h2, h3⟩ := h
  refine ⟨ρ, st, μ, F, h1, h2, Post.bindI gE_lat h3 fun dg s J μ' F' H' x0 r0 wk h4 L hL => ?_⟩
  obtain ⟨ds, gd⟩ := dg
  obtain ⟨rn, xn⟩ := r0.newly (o := .dK []) hL
  have dd := r0.dead hL
  refine ⟨fun i m H => m = ds.length - i ∧ i ≤ ds.length ∧ ∃ acc st1 μ1 F1, DgI C μ' F' H' L (wipeE ρ (own.map (·.2))) (wipe σ (own.map (·.2))) acc H st1 μ1 F1 ∧
      PostE (C.at σ) Q μ' F' H' ((dcGo g tt tk te gd ds (wipeE ρ (own.map (·.2))) (ds.drop i) st1 acc).bind fun ys s' => .ok (.n (.m ys)) s'),
    ⟨ds.length, rfl, Nat.zero_le _, [], s, μ', F', ⟨xn, rn, (eok_wipe (h1.ext x0) _), ⟨_, upd_same, .inl ⟨[], rfl, .nil⟩⟩, dd.1, dd.2⟩, h4⟩, ?_⟩
  rintro i m H ⟨rfl, hi, acc, st1, μ1, F1, I, h5⟩
  by_cases hl : i < ds.length
  · obtain ⟨d, e1, e2⟩ := drop_cons hl
    rw [e2] at h5
    unfold dcGo at h5
    by_cases hgd : Grd gd ds st1
    · rw [if_pos hgd] at h5
      obtain ⟨go, step⟩ := wk.go i μ1 F1 H st1 d I.x.sx I.r hgd e1
      refine .inr ⟨go, fun H2 => ∃ acc st1 μ1 F1, DgI C μ' F' H' L (wipeE ρ (own.map (·.2))) (wipe σ (own.map (·.2))) acc H2 st1 μ1 F1 ∧
        PostE (C.at σ) Q μ' F' H' ((dcGo g tt tk te gd ds (wipeE ρ (own.map (·.2))) (ds.drop (i + 1)) st1 acc).bind fun ys s' => .ok (.n (.m ys)) s'), fun H2 hn => ⟨ds.length - (i + 1), by omega, rfl, hl, hn⟩, fun x H2 y => ?_⟩
      obtain ⟨F2, x2, r2, kd⟩ := step x H2 y
      have I2 := I.later x2 r2
      refine ⟨_, st1, μ1, F2, .d d, I2.k, r2, kd, ?_⟩
      show Post (C.quiet.at _) _ μ1 F2 H2 (g (.d d) (wipeE ρ (own.map (·.2))) st1)
      cases q : g (.d d) (wipeE ρ (own.map (·.2))) st1 with
      | no => simp only [q] at h5; exact False.elim h5
      | er _ _ => simp only [q] at h5; exact False.elim h5
      | ok ρ2 s2 =>
        simp only [q] at h5
        intro σ3 μ3 F3 H3 x3 r3 k3 ag
        have I3 := I2.later x3 r3
        refine ⟨wipe_agr ag hws, ρ2, s2, μ3, F3, k3, r3, ?_⟩
        show Post (C.quiet.at _) _ μ3 F3 H3 (tt ρ2 s2)
        cases q2 : tt ρ2 s2 with
        | no => simp only [q2] at h5; exact False.elim h5
        | er _ _ => simp only [q2] at h5; exact False.elim h5
        | ok k s3 =>
          intro μ4 F4 H4 x4 r4
          have I4 := I3.later x4 r4
          cases k with
          | false =>
            simp only [q2] at h5
            simp only [Bool.false_eq_true, if_false]
            exact ⟨acc, s3, μ4, F4, I4, h5⟩
          | true =>
            simp only [q2] at h5
            simp only [if_true]
            refine ⟨ρ2, s3, μ4, F4, k3.ext x4, r4, ?_⟩
            show Post (C.quiet.at _) _ μ4 F4 H4 (mV tk ρ2 s3)
            cases q3 : mV tk ρ2 s3 with
            | no => simp only [q3] at h5; exact False.elim h5
            | er _ _ => simp only [q3] at h5; exact False.elim h5
            | ok z s4 =>
              intro v μ5 F5 H5 x5 r5 k5
              have I5 := I4.later x5 r5
              refine ⟨ρ2, s4, μ5, F5, (k3.ext x4).ext x5, r5, ?_⟩
              show Post (C.quiet.at _) _ μ5 F5 H5 (mV te ρ2 s4)
              cases z with
              | c _ => simp only [q3] at h5; exact False.elim h5
              | s _ => simp only [q3] at h5; exact False.elim h5
              | o _ => simp only [q3] at h5; exact False.elim h5
              | d kd =>
                simp only [q3] at h5
                cases q4 : mV te ρ2 s4 with
                | no => simp only [q4] at h5; exact False.elim h5
                | er _ _ => simp only [q4] at h5; exact False.elim h5
                | ok z2 s5 =>
                  intro v2 μ6 F6 H6 x6 r6 k6
                  have I6 := I5.later x6 r6
                  cases z2 with
                  | c _ => simp only [q4] at h5; exact False.elim h5
                  | s _ => simp only [q4] at h5; exact False.elim h5
                  | o _ => simp only [q4] at h5; exact False.elim h5
                  | d y =>
                    simp only [q4] at h5
                    by_cases hz : okK acc kd = true ∧ acc.length < sizeLine
                    · rw [if_pos hz] at h5
                      obtain ⟨ob, g1, g2⟩ := I6.l
                      exact ⟨C.K, F6, ob, acc, kd, y, hw, g1, r6.sub, g2, Dq.same x6.same k5, hz.1, hz.2, k6, fun o' hc' => ⟨_, s5, μ6, F6, I6.put hL hc', h5⟩⟩
                    · rw [if_neg hz] at h5; exact False.elim h5
    · rw [if_neg hgd] at h5; exact False.elim h5
  · have e : i = ds.length := by omega
    subst e
    rw [List.drop_length] at h5
    unfold dcGo at h5
    by_cases hgd : Grd gd ds st1
    · rw [if_pos hgd] at h5
      obtain ⟨xs, g1, g2⟩ := I.l
      exact .inl ⟨wk.stop μ1 F1 H st1 I.x.sx I.r hgd, h5 _ μ1 F1 H ⟨I.x, I.r, ⟨L, _, rfl, g1, g2, I.f, I.m⟩, fun c _ => ⟨L, rfl, hL⟩⟩⟩
    · rw [if_neg hgd] at h5; exact False.elim h5
theorem s_dcG (B : Bd k X C) {scope : Scope} {own : List (Str × Nat)} {ifs : List Expr} {mi : En → Sto → Res Src} {ws : List Nat} {g : Gm} {tt : En → Sto → Res Bool} {tk te : Ev} (hc : X.calm = true) (hN : X.N.Nodup) (hi : PI X tg iter (tI C mi)) (ok : BlkOk X.N X.env.scope scope own)
    (hg : Blk X scope fun Y => PG Y tg (tG C.quiet ws g)) (ht : Blk X scope fun Y => PTs Y ifs (tT C.quiet tt)) (hk : Blk X scope fun Y => PE Y kx (tM C.quiet tk)) (he : Blk X scope fun Y => PE Y vx (tM C.quiet te)) (hws : ∀ i, i ∈ ws → i ∈ own.map (·.2)) (hs : ∀ x, foldedSetIterable iter X.env x = pure x := by intro _; rfl) :
    PE X (.DictComp kx vx [⟨tg, iter, ifs, 0⟩] scope pos) (tM C (mDcG mi g tt tk te (own.map (·.2)))) :=
  (pe_dcG hc hN hi ok (fun s H A cl fp => hg s H A cl fp) (fun s H A cl fp => ht s H A cl fp) (fun s H A cl fp => pv_frz (hk s H A cl fp)) (fun s H A cl fp => pv_frz (he s H A cl fp)) B.rm.hu hs).imp fun σ H Q h => s_dcT (scope := scope) B.hw hws σ H Q h
/-- name = {..} -/
theorem x_setDcG (B : Bd k X C) {i : Nat} {y : Str} {py : Pos} {spos : Pos} {scope : Scope} {own : List (Str × Nat)} {ifs : List Expr} {mi : En → Sto → Res Src} {ws : List Nat} {g : Gm} {tt : En → Sto → Res Bool} {tk te : Ev} (hc : X.calm = true) (hN : X.N.Nodup) (hy : X.N[i]? = some y) (hyl : X.env.scope.names.lookup y = some .local)
    (hsw : swapsWith (.DictComp kx vx [⟨tg, iter, ifs, 0⟩] scope pos) (some (.Name y py)) spos.line X.env = pure true) (hi : PI X tg iter (tI C mi)) (ok : BlkOk X.N X.env.scope scope own)
    (hg : Blk X scope fun Y => PG Y tg (tG C.quiet ws g)) (ht : Blk X scope fun Y => PTs Y ifs (tT C.quiet tt)) (hk : Blk X scope fun Y => PE Y kx (tM C.quiet tk)) (he : Blk X scope fun Y => PE Y vx (tM C.quiet te)) (hws : ∀ i, i ∈ ws → i ∈ own.map (·.2)) (hs : ∀ x, foldedSetIterable iter X.env x = pure x := by intro _; rfl) :
    PS X (.Assign [.Name y py] (.DictComp kx vx [⟨tg, iter, ifs, 0⟩] scope pos) spos) (tS C (sAsg (gNm i) (mV (mDcG mi g tt tk te (own.map (·.2)))))) := by
  have h := ps_setDcG (spos := spos) (py := py) hc hN hy hyl hsw hi ok (fun s H A cl fp => hg s H A cl fp) (fun s H A cl fp => ht s H A cl fp) (fun s H A cl fp => pv_frz (hk s H A cl fp)) (fun s H A cl fp => pv_frz (he s H A cl fp)) B.rm.hu hs
  refine x_asgLc h fun σ H Q hq => s_dcT (scope := scope) B.hw hws σ H Q ?_
  obtain ⟨ρ, st, μ, F, h1, h2, h3⟩ := hq
  refine ⟨ρ, st, μ, F, h1, h2, ?_⟩
  show PostE (C.at σ) Q μ F H (mDcG mi g tt tk te (own.map (·.2)) ρ st)
  cases q : mDcG mi g tt tk te (own.map (·.2)) ρ st with
  | ok r s' =>
    simp only [mV, q] at h3
    intro v μ' F' H' o
    obtain ⟨F2, x2, s2, k⟩ := frz_out h2 o
    exact h3 v μ' F2 H' x2 s2 k
  | er e2 s' => simp only [mV, q] at h3; exact h3
  | no => simp only [mV, q] at h3; exact h3
end
section
variable {E : Er → Sto → Prop} {ρ : En} {st : Sto}
@[simp] theorem W_mDcG {PE : Rv → Sto → Prop} (mi : En → Sto → Res Src) (g : Gm) (tt : En → Sto → Res Bool) (tk te : Ev) (vs : List Nat) : WVe E (mDcG mi g tt tk te vs ρ st) PE = WVe E (mi ρ st) fun dg s => WVe E (dcGo g tt tk te dg.2 dg.1 (wipeE ρ vs) dg.1 s []) fun ys s' => PE (.n (.m ys)) s' := by
  unfold mDcG; rw [WV_bind]
  congr 1; funext dg s; rw [WV_bind]; rfl
theorem dcGo_by {g : Gm} {tt : En → Sto → Res Bool} {tk te : Ev} {gd : Option (Nat × List PyData)} {all : List PyData} {P : List (PyData × PyData) → Sto → Prop} (I : Nat → Sto → List (PyData × PyData) → Prop) (ds : List PyData) (j : Nat) (acc : List (PyData × PyData)) (h0 : I j st acc) (hg : ∀ i s a, I i s a → Grd gd all s)
    (hs : ∀ (i : Nat) (d : PyData) (s : Sto) (a : List (PyData × PyData)), ds[i]? = some d → I (j + i) s a → WVe noE (g (.d d) ρ s) fun ρ1 s1 => WVe noE (tt ρ1 s1) fun k s2 => if k = true then WVe noE (tk ρ1 s2) fun r3 s3 => WVe noE (te ρ1 s3) fun r4 s4 => ∃ x y, frz r3 = .d x ∧ frz r4 = .d y ∧ (okK a x = true ∧ a.length < sizeLine) ∧ I (j + i + 1) s4 (putD a x y) else I (j + i + 1) s2 a)
    (he : ∀ s a, I (j + ds.length) s a → P a s) : WVe E (dcGo g tt tk te gd all ρ ds st acc) P := by
  induction ds generalizing j st acc with
  | nil =>
    unfold dcGo
    rw [if_pos (hg _ _ _ h0)]
    exact he _ _ h0
  | cons d r ih =>
    unfold dcGo
    rw [if_pos (hg _ _ _ h0)]
    have h1 := hs 0 d st acc rfl h0
    have next : ∀ s2 a2, I (j + 1) s2 a2 → WVe E (dcGo g tt tk te gd all ρ r s2 a2) P := fun s2 a2 h2 => ih (j + 1) a2 h2 (fun i d s a e h => by
      have := hs (i + 1) d s a (by simpa using e) (by rw [show j + (i + 1) = j + 1 + i by omega]; exact h)
      rw [show j + (i + 1) + 1 = j + 1 + i + 1 by omega] at this
      exact this) fun s a h => he s a (by rw [List.length_cons, show j + (r.length + 1) = j + 1 + r.length by omega]; exact h)
    cases q : g (.d d) ρ st with
    | ok ρ1 s1 =>
      rw [q, WV_ok] at h1
      simp only []
      cases q2 : tt ρ1 s1 with
      | ok k s2 =>
        rw [q2, WV_ok] at h1
        cases k with
        | false => simp only [Bool.false_eq_true, if_false] at h1; exact next _ _ h1
        | true =>
          simp only [if_true] at h1
          cases q3 : tk ρ1 s2 with
          | ok rr s3 =>
            rw [q3, WV_ok] at h1
            cases q4 : te ρ1 s3 with
            | ok r4 s4 =>
              rw [q4, WV_ok] at h1
              obtain ⟨x, y, e1, e2, e3, e5⟩ := h1
              have e6 : mV tk ρ1 s2 = .ok (.d x) s3 := by unfold mV; rw [q3]; show Res.ok (frz rr) s3 = _; rw [e1]
              have e7 : mV te ρ1 s3 = .ok (.d y) s4 := by unfold mV; rw [q4]; show Res.ok (frz r4) s4 = _; rw [e2]
              simp only [e6, e7, if_pos e3]
              exact next _ _ e5
            | er x s4 => rw [q4] at h1; exact False.elim h1
            | no => rw [q4] at h1; exact False.elim h1
          | er x s2 => rw [q3] at h1; exact False.elim h1
          | no => rw [q3] at h1; exact False.elim h1
      | er x s2 => rw [q2] at h1; exact False.elim h1
      | no => rw [q2] at h1; exact False.elim h1
    | er x s2 => rw [q] at h1; exact False.elim h1
    | no => rw [q] at h1; exact False.elim h1
end
end Cp
/-! Cdh: {k: v} with one tuple as key; a dict's cell that becomes data. -/
namespace Cp
open PySem L2
open PySem.Spec PyProof.Rows
section
variable {X : Cx} {C : Cn} {kx vx e : Expr} {pos : Pos} {k : Nat} {mk mv m : Ev}
def tDisp1 (w : World) (tk tv : TE) : TE := fun σ H Q => ∀ p, H p = none → tk σ (upd H p (.dK [])) fun y H1 => tv σ H1 fun z H2 => PutAt w H2 p y z fun H3 => Q (.ref p) H3
theorem pe_disp1 {tk tv : TE} (hk : PE X kx tk) (hv : PE X vx tv) (hu : X.A.units + 64 < cLine) : PE X (.Dict [some kx] [vx] pos) (tDisp1 X.w tk tv) := by
  refine ⟨fun pins s σ H Q I q => ?_⟩
  have hn := I.hok.fresh (Nat.le_refl s.heap.objs.size)
  have I1 := I.laid (a := s.heap.objs.size) (o := .dK []) (h' := s.heap.push { cls := .type "dict", data := .dict #[] }) (t' := s.toks) (fun _ _ q => Heap.get?_push_of_some _ q) (Nat.le_refl _) (dk_empty s.heap I.big)
  refine wpAny_Dict_any rfl rfl (by simp) (by simp) (pairTrees_cons_walk (thn (hk.run pins _ σ _ _ I1 (q _ hn)) fun u s1 ⟨y, H1, I2, rx, q1⟩ => thn (hv.run pins s1 σ H1 _ I2 q1) fun w2 s2 ⟨z, H2, I3, ry, q2⟩ => pairTrees_nil_walk ?_))
  obtain ⟨KK, F, ob, kvs, kd, dv, hw, hD, sm, hdc, hkd, hok, hl, hdv, nx⟩ := q2
  unfold storeAll
  rw [List.forIn_cons]
  refine wpAny_bind (wpAny_bind (d_dput hu I3 hw hD sm hdc hkd hok hl hdv rx ry fun o' s' hc' I4 => wpAny_pure ?_))
  show wpAny _ _ (forIn ([] : List (Value × Value)) PUnit.unit _) _ _ _
  rw [List.forIn_nil]
  exact wpAny_pure ⟨.ref s.heap.objs.size, _, I4, rfl, nx o' hc'⟩
/-- {k: v} -/
def dg1 (x y : Vl) (s : Sto) : Res Rv := match x, y with
  | .d a, .d b => if gnD a = true then .ok (.n (.m [(a, b)])) s else .no
  | _, _ => .no
def mDg1 (mk mv : Ev) : Ev := fun ρ st => (mV mk ρ st).bind fun x s1 => (mV mv ρ s1).bind fun y s2 => dg1 x y s2
theorem putD_nil (a b : PyData) : putD [] a b = [(a, b)] := rfl
theorem s_dg1 (B : Bd k X C) (hk : PE X kx (tM C mk)) (hv : PE X vx (tM C mv)) : PE X (.Dict [some kx] [vx] pos) (tM C (mDg1 mk mv)) :=
  (pe_disp1 (pv_frz hk) (pv_frz hv) B.rm.hu).imp fun σ H Q ⟨ρ, st, μ, F, h1, h2, h3⟩ p hp => by
    obtain ⟨s1, x1⟩ := h2.newly (o := .dK []) hp
    have dd := h2.dead hp
    refine ⟨ρ, st, μ, F, h1, s1, ?_⟩
    show PostV (C.at σ) _ μ F (upd H p (.dK [])) (mV mk ρ st)
    have h3 : PostE (C.at σ) Q μ F H ((mV mk ρ st).bind fun x s1 => (mV mv ρ s1).bind fun y s2 => dg1 x y s2) := h3
    cases q1 : mV mk ρ st with
    | no => rw [q1] at h3; exact h3
    | er e s => rw [q1] at h3; exact Erw.later x1 h3
    | ok x s2 =>
      rw [q1] at h3
      have h3 : PostE (C.at σ) Q μ F H ((mV mv ρ s2).bind fun y s2 => dg1 x y s2) := h3
      intro v μ2 F2 H2 x2 r2 k2
      refine ⟨ρ, s2, μ2, F2, h1.ext x2, r2, ?_⟩
      show PostV (C.at σ) _ μ2 F2 H2 (mV mv ρ s2)
      cases q2 : mV mv ρ s2 with
      | no => rw [q2] at h3; exact h3
      | er e s => rw [q2] at h3; exact Erw.later (x1.trans x2) h3
      | ok y s3 =>
        rw [q2] at h3
        have h3 : PostE (C.at σ) Q μ F H (dg1 x y s3) := h3
        intro u μ3 F3 H3 x3 r3 k3
        cases x with
        | c _ => exact False.elim h3
        | s _ => exact False.elim h3
        | o _ => exact False.elim h3
        | d a =>
          cases y with
          | c _ => exact False.elim h3
          | s _ => exact False.elim h3
          | o _ => exact False.elim h3
          | d b =>
            have h3 : PostE (C.at σ) Q μ F H (if gnD a = true then .ok (.n (.m [(a, b)])) s3 else .no) := h3
            by_cases hg : gnD a = true
            · rw [if_pos hg] at h3
              obtain ⟨g1, g2, g3⟩ := (x2.trans x3).keepOut (L := p) upd_same dd.1 dd.2
              refine ⟨C.K, F3, _, [], a, b, B.hw, g1, r3.sub, .inl ⟨[], rfl, .nil⟩, Dq.same x3.same k2, by simp [okK, flK, gnK, hg], by decide, k3, fun o' hc' => ?_⟩
              rw [putD_nil] at hc'
              have xx := ((x1.trans x2).trans x3).out (L := p) (u := o') hp (.inr trivial)
              exact h3 _ μ3 F3 _ ⟨xx, r3.out g2 g3, ⟨p, _, rfl, upd_same, hc', g2, g3⟩, fun _ _ => ⟨p, rfl, hp⟩⟩
            · rw [if_neg hg] at h3; exact False.elim h3
/-- .. a dict's cell that nobody will write again becomes data -/
def mVzM (m : Ev) : En → Sto → Res Vl := fun ρ st => (m ρ st).bind fun r s => match r with
  | .c k => (match s[k]? with
    | some (.m kvs) => if isGone (.m kvs) = false then .ok (.d (.dict kvs)) (s.set k gone) else .no
    | _ => .no)
  | r => .ok (frz r) s
theorem pv_goneM (h : PE X e (tM C m)) : PE X e (tV C (mVzM m)) := h.imp fun σ H Q ⟨ρ, st, μ, F, h1, h2, h3⟩ => ⟨ρ, st, μ, F, h1, h2, by
  show PostE (C.at σ) Q μ F H (m ρ st)
  cases e : m ρ st with
  | ok r st' =>
    simp only [mVzM, e] at h3
    intro v μ' F' H' o
    cases r with
    | d x => exact h3 v μ' F' H' o.ext o.sr o.rok
    | s x => exact h3 v μ' F' H' o.ext o.sr o.rok
    | o x => exact h3 v μ' F' H' o.ext o.sr o.rok
    | n c =>
      obtain ⟨F2, x2, s2, k⟩ := frz_out h2 o
      exact h3 v μ' F2 H' x2 s2 k
    | c k =>
      obtain ⟨p, hp, rfl⟩ := o.rok
      have h3 : PostV (C.at σ) Q μ F H (match st'[k]? with
        | some (.m kvs) => if isGone (.m kvs) = false then .ok (.d (.dict kvs)) (st'.set k gone) else .no
        | _ => .no) := h3
      cases q : st'[k]? with
      | none => simp only [q] at h3; exact False.elim h3
      | some c =>
        cases c with
        | l _ => simp only [q] at h3; exact False.elim h3
        | m kvs =>
          simp only [q] at h3
          by_cases hz : isGone (.m kvs) = false
          · rw [if_pos hz] at h3
            obtain ⟨F2, s2, x2, hd⟩ := o.sr.toDataM hp q hz
            exact h3 _ μ' F2 H' (o.ext.trans x2) s2 hd
          · rw [if_neg hz] at h3; exact False.elim h3
  | er e2 st' => simp only [mVzM, e] at h3; exact h3
  | no => simp only [mVzM, e] at h3; exact h3⟩
variable {E : Er → Sto → Prop} {ρ : En} {st : Sto} {PV : Vl → Sto → Prop} {PE : Rv → Sto → Prop}
@[simp] theorem W_mDg1 : WVe E (mDg1 mk mv ρ st) PE = WVe E (mk ρ st) fun x s1 => WVe E (mv ρ s1) fun y s2 => (match frz x, frz y with
    | .d a, .d b => gnD a = true ∧ PE (.n (.m [(a, b)])) s2
    | _, _ => False) := by
  unfold mDg1; rw [WV_bind, W_mV]
  congr 1; funext x s1
  rw [WV_bind, W_mV]
  congr 1; funext y s2
  generalize frz x = x'
  generalize frz y = y'
  cases x' <;> cases y' <;> try rfl
  rename_i a b
  show WVe E (if gnD a = true then .ok (.n (.m [(a, b)])) s2 else .no) PE = (gnD a = true ∧ PE (.n (.m [(a, b)])) s2)
  by_cases h : gnD a = true
  · rw [if_pos h]; simp [h, WVe]
  · rw [if_neg h]; simp [h, WVe]
def zMd (r : Rv) (s : Sto) (P : Vl → Sto → Prop) : Prop := match r with
  | .c k => (match s[k]? with
    | some (.m kvs) => isGone (.m kvs) = false ∧ P (.d (.dict kvs)) (s.set k gone)
    | _ => False)
  | r => P (frz r) s
@[simp] theorem W_mVzM : WVe E (mVzM m ρ st) PV = WVe E (m ρ st) fun r s => zMd r s PV := by
  unfold mVzM; rw [WV_bind]
  congr 1; funext r s
  cases r with
  | c k =>
    show WVe E (match s[k]? with
      | some (.m kvs) => if isGone (.m kvs) = false then .ok (.d (.dict kvs)) (s.set k gone) else .no
      | _ => .no) PV = (match s[k]? with
      | some (.m kvs) => isGone (.m kvs) = false ∧ PV (.d (.dict kvs)) (s.set k gone)
      | _ => False)
    cases s[k]? with
    | none => rfl
    | some c =>
      cases c with
      | l _ => rfl
      | m kvs =>
        dsimp only
        by_cases h : isGone (.m kvs) = false
        · rw [if_pos h, and_iff_right h]; rfl
        · rw [if_neg h]; exact propext ⟨fun z => False.elim z, fun z => absurd z.1 h⟩
  | _ => rfl
end
section
variable {X : Cx} {C : Cn} {k : Nat} {a : Expr} {mas : En → Sto → Res (List Vl)} {p pos : Pos}
/-! ### len(d) -/
def rLenG (w : World) : List V → Hp → VK → Prop := fun vs H Q => ∃ (K : Kw) (F : Hp) (a : Addr) (o : HO) (kvs : List (PyData × PyData)), vs = [.ref a] ∧ K.w = w ∧ H a = some o ∧ Same F H ∧ DcOk K F a kvs o ∧ gnK kvs = true ∧ Q (.int kvs.length) H
theorem cr_lenG : CallR X (.builtin "len") (rLenG X.w) := by
  intro pins s σ H xs us Q I r h
  obtain ⟨K, F, a, o, kvs, rfl, hw, ha, sm, hd, hg, q⟩ := h
  obtain rfl := Vals.ref1 r
  obtain ⟨es, xs, h2, h3, pr, dd, hl, low, _⟩ := dc_gen I.hok sm hw ha hd hg
  have lx : es.length = xs.length := Paired.length pr
  have lk : kvs.length = xs.length := by rw [← lx, lenG h2]
  have hn := line63
  exact call_len_dictH low dd (by omega) ⟨.int kvs.length, H, I.tok _, ⟨s.toks + 1, by rw [lk]⟩, q⟩
def fLenG (d : PyData) : Option Rv := match d with
  | .dict kvs => if gnK kvs = true then some (.d (.int kvs.length)) else none
  | _ => none
theorem fLenG_ok {w : World} (hw : C.K.w = w) : CallOk C (rLenG w) (g1 fLenG) := g1_ok fun d res v μ F H st Q s hv e pp => by
  cases d with
  | dict kvs =>
    have e : (if gnK kvs = true then some (Rv.d (.int kvs.length)) else none) = some res := e
    split at e
    · rename_i hg
      cases e
      obtain ⟨a, o, rfl, ha, hd⟩ := dq_dict hv hg
      exact ⟨C.K, F, a, o, kvs, rfl, hw, ha, s.sub, hd, hg, fin_d s pp (.int _)⟩
    · cases e
  | _ => cases e
theorem k_lenG (B : Bd k X C) (hg : Gl X "len") (hm : X.mg "len" = none) (ha : PA X [a] (tAs C mas)) (he : starEach [a] X.env = (false, eval a X.env) :: starEach [] X.env := by rfl) (hpl : NA X [] pos := by rfl) : PE X (.Call (.Name "len" p) [a] [] pos) (tM C (mCal (g1 fLenG) mas)) :=
  s_callB cr_lenG (fLenG_ok B.hw) hg hm boot_len ha (by decide) (by decide) he hpl
@[simp] theorem fLenG_d (kvs : List (PyData × PyData)) : fLenG (.dict kvs) = if gnK kvs = true then some (.d (.int kvs.length)) else none := rfl
end
end Cp
/-! Cu: the laws' urn: made, drawn from. -/
namespace Cp
open PySem L2
noncomputable def sbU_urn : Sv := (sSeq (sAsg (gNm 2) (mV (mBin fAdd (mBin fMulA (mK (.int 13)) (mN 1)) (mK (.int 5))))) (sSeq (sIf (mCmp (gI fun i j => decide (i < j)) (mN 1) (mCal (gLen) (aCons (mV (mN 0)) aNil))) (sAsg (gNm 2) (mV (mSix (mN 0) (mN 1)))) sNil) (sSeq (sAsg (gNm 3) (mV (mBin fMulA (mBin (fI pPos fun i j => i % j) (mCal (g1 fAbs) (aCons (mV (mN 2)) aNil)) (mBin (fI pPow fun i j => i ^ j.toNat) (mBin (fI pPow fun i j => i ^ j.toNat) (mK (.int 10)) (mK (.int 60))) (mK (.int 5)))) (mCal (g1 fInt) (aCons (mV (bV (mCmp (gI fun i j => decide (j ≤ i)) (mCal (g1 fAbs) (aCons (mV (mN 2)) aNil)) (mBin (fI pPow fun i j => i ^ j.toNat) (mK (.int 10)) (mK (.int 18)))))) aNil))))) (sRet (mLst (aCons (mV (mN 3)) (aCons (mV (mBin (fI pPos fun i j => i % j) (mBin fAdd (mBin fAdd (mBin fMulA (mBin (fI pPos fun i j => i % j) (mN 2) (mK (.int 2305843009213693951))) (mK (.int 69859))) (mBin fMulA (mBin fMulA (mK (.int 5003)) (mN 1)) (mN 1))) (mK (.int 83))) (mK (.int 2305843009213693907)))) (aCons (mV (mK (.int 0))) aNil))))))))
noncomputable def semU_urn : Fs := bodyF 4 2 sbU_urn
noncomputable def sbU_next : Sv := (sSeq (sIf (mCmp (gI fun i j => decide (j < i)) (mBin fIx (mN 0) (mK (.int 0))) (mK (.int 0))) (sSeq (sAsg (gNm 2) (mV (mBin (fI pPos fun i j => i % j) (mBin fIx (mN 0) (mK (.int 0))) (mN 1)))) (sSeq (sAsg (gPl (mN 0) (mK (.int 0))) (mV (mBin (fI pDiv fun i j => i / j) (mBin fIx (mN 0) (mK (.int 0))) (mN 1)))) (sRet (mN 2)))) sNil) (sSeq (sAsg (gPl (mN 0) (mK (.int 2))) (mV (mBin fAdd (mBin fIx (mN 0) (mK (.int 2))) (mK (.int 1))))) (sSeq (sAsg (gNm 3) (mV (mBin (fI pPos fun i j => i % j) (mBin fMulA (mBin fAdd (mBin fAdd (mBin fIx (mN 0) (mK (.int 1))) (mBin fMulA (mBin fMulA (mK (.int 30011)) (mBin fIx (mN 0) (mK (.int 2)))) (mBin fIx (mN 0) (mK (.int 2))))) (mK (.int 19))) (mK (.int 69877))) (mK (.int 2305843009213693921))))) (sSeq (sAsg (gNm 3) (mV (mBin (fI pPos fun i j => i % j) (mBin fMulA (mN 3) (mBin fAdd (mBin fAdd (mBin (fI pPos fun i j => i % j) (mN 3) (mK (.int 1000039))) (mBin fMulA (mK (.int 60013)) (mBin fIx (mN 0) (mK (.int 2))))) (mK (.int 5)))) (mK (.int 2305843009213693951))))) (sRet (mBin (fI pPos fun i j => i % j) (mBin fAdd (mBin (fI pDiv fun i j => i / j) (mN 3) (mK (.int 103))) (mBin (fI pDiv fun i j => i / j) (mN 3) (mK (.int 999979)))) (mN 1)))))))
noncomputable def semU_next : Fs := bodyF 4 2 sbU_next
noncomputable def sbU_of : Sv := (sRet (mBin fIx (mN 1) (mCall semU_next (aCons (mVc (mN 0)) (aCons (mV (mCal (gLen) (aCons (mV (mN 1)) aNil))) aNil)))))
noncomputable def semU_of : Fs := bodyF 2 2 sbU_of
/-- an urn: what is left of the script's own digits, the seed, the turns -/
def urn (a b c : Int) : Cl := .l [.int a, .int b, .int c]
/-- an urn that has been drawn from at most n times -/
def Urn (n : Int) (u : Cl) : Prop := ∃ a b c : Int, u = urn a b c ∧ 0 ≤ a ∧ 0 ≤ b ∧ b < 2 ^ 61 ∧ 0 ≤ c ∧ c ≤ n
theorem Urn.mono {n m : Int} {u : Cl} (h : Urn n u) (k : n ≤ m) : Urn m u := by
  obtain ⟨a, b, c, h1, h2, h3, h4, h5, h6⟩ := h
  exact ⟨a, b, c, h1, h2, h3, h4, h5, Int.le_trans h6 k⟩
section
variable {st : Sto} {P : Rv → Sto → Prop}
theorem own_small (x : Int) (hx : 0 ≤ x) : (x % ((10 ^ 60) ^ 5 : Int)).natAbs < 2 ^ 1000 := by
  have h1 := Int.emod_lt_of_pos x (show (0 : Int) < (10 ^ 60) ^ 5 by decide)
  have h2 := Int.emod_nonneg x (show ((10 ^ 60) ^ 5 : Int) ≠ 0 by decide)
  have h3 : ((10 ^ 60) ^ 5 : Int) < ((2 ^ 1000 : Nat) : Int) := by decide +kernel
  have h4 : ((x % ((10 ^ 60) ^ 5 : Int)).natAbs : Int) < ((2 ^ 1000 : Nat) : Int) := by rw [Int.natAbs_of_nonneg h2]; exact Int.lt_trans h1 h3
  exact Int.ofNat_lt.mp h4
theorem w_urn_fin {cell k : Int} (hk : 0 ≤ k) (hk2 : k ≤ 63) (h : ∀ u, Urn 0 u → P (.n u) st) : pPow 10 60 = true ∧ pPow 1000000000000000000000000000000000000000000000000000000000000 5 = true ∧
    pPos (if cell < 0 then -cell else cell) 1000000000000000000000000000000000000000000000000000000000000000000000000000000000000000000000000000000000000000000000000000000000000000000000000000000000000000000000000000000000000000000000000000000000000000000000000000000000000000000000000000000000000000000000000000000000000000000000000000000000000 = true ∧ pPow 10 18 = true ∧
    pMul ((if cell < 0 then -cell else cell) % 1000000000000000000000000000000000000000000000000000000000000000000000000000000000000000000000000000000000000000000000000000000000000000000000000000000000000000000000000000000000000000000000000000000000000000000000000000000000000000000000000000000000000000000000000000000000000000000000000000000000000)
      (if 1000000000000000000 ≤ if cell < 0 then -cell else cell then 1 else 0) = true ∧ pPos cell 2305843009213693951 = true ∧ pMul (cell % 2305843009213693951) 69859 = true ∧ pMul 5003 k = true ∧ pMul (5003 * k) k = true ∧
    pPos (cell % 2305843009213693951 * 69859 + 5003 * k * k + 83) 2305843009213693907 = true ∧ 3 ≤ sizeLine ∧
    P (Rv.n (Cl.l [PyData.int ((if cell < 0 then -cell else cell) % 1000000000000000000000000000000000000000000000000000000000000000000000000000000000000000000000000000000000000000000000000000000000000000000000000000000000000000000000000000000000000000000000000000000000000000000000000000000000000000000000000000000000000000000000000000000000000000000000000000000000000 *
        if 1000000000000000000 ≤ if cell < 0 then -cell else cell then 1 else 0),
      PyData.int ((cell % 2305843009213693951 * 69859 + 5003 * k * k + 83) % 2305843009213693907), PyData.int 0])) st := by
  have hx : (0 : Int) ≤ if cell < 0 then -cell else cell := by split <;> omega
  have ho := own_small _ hx
  have e1 : ((10 ^ 60) ^ 5 : Int) = 1000000000000000000000000000000000000000000000000000000000000000000000000000000000000000000000000000000000000000000000000000000000000000000000000000000000000000000000000000000000000000000000000000000000000000000000000000000000000000000000000000000000000000000000000000000000000000000000000000000000000 := by decide +kernel
  rw [e1] at ho
  have hn := Int.emod_nonneg (if cell < 0 then -cell else cell) (show (1000000000000000000000000000000000000000000000000000000000000000000000000000000000000000000000000000000000000000000000000000000000000000000000000000000000000000000000000000000000000000000000000000000000000000000000000000000000000000000000000000000000000000000000000000000000000000000000000000000000000 : Int) ≠ 0 by decide)
  generalize (if cell < 0 then -cell else cell) % 1000000000000000000000000000000000000000000000000000000000000000000000000000000000000000000000000000000000000000000000000000000000000000000000000000000000000000000000000000000000000000000000000000000000000000000000000000000000000000000000000000000000000000000000000000000000000000000000000000000000000 = own at ho hn ⊢
  have hm : (if 1000000000000000000 ≤ if cell < 0 then -cell else cell then (1 : Int) else 0) = 0 ∨ (if 1000000000000000000 ≤ if cell < 0 then -cell else cell then (1 : Int) else 0) = 1 := by
    by_cases hh : 1000000000000000000 ≤ if cell < 0 then -cell else cell
    · exact .inr (if_pos hh)
    · exact .inl (if_neg hh)
  generalize (if 1000000000000000000 ≤ if cell < 0 then -cell else cell then (1 : Int) else 0) = bit at hm ⊢
  have c1 := Int.emod_lt_of_pos cell (show (0 : Int) < 2305843009213693951 by decide)
  have c2 := Int.emod_nonneg cell (show (2305843009213693951 : Int) ≠ 0 by decide)
  have d1 := Int.emod_lt_of_pos (cell % 2305843009213693951 * 69859 + 5003 * k * k + 83) (show (0 : Int) < 2305843009213693907 by decide)
  have d2 := Int.emod_nonneg (cell % 2305843009213693951 * 69859 + 5003 * k * k + 83) (show (2305843009213693907 : Int) ≠ 0 by decide)
  refine ⟨by decide +kernel, by decide +kernel, rfl, by decide +kernel, pMul_of (a := 1000) (b := 1) ho (by omega) (by decide), rfl, pMul_of (a := 70) (b := 20) (by omega) (by decide) (by decide), pMul_of (a := 20) (b := 20) (by decide) (by omega) (by decide), pMul_of (a := 40) (b := 20) (by omega) (by omega) (by decide), rfl, by decide, h _ ⟨_, _, 0, rfl, ?_, d2, ?_, Int.le_refl _, Int.le_refl _⟩⟩
  · rcases hm with e | e <;> rw [e] <;> omega
  · exact Int.lt_trans d1 (by decide)
theorem w_urn {ns : List Int} {k : Int} (hk : 0 ≤ k) (hk2 : k ≤ 63) (h : ∀ u, Urn 0 u → P (.n u) st) : WVe noE (semU_urn [.s ns, .d (.int k)] st) P := by
  obtain ⟨j, rfl⟩ : ∃ j : Nat, k = (j : Nat) := ⟨k.toNat, by omega⟩
  unfold semU_urn sbU_urn
  rw [W_body]
  simp
  refine ⟨pMul_of (a := 10) (b := 10) (by omega) (by omega) (by decide), ?_⟩
  split
  · rename_i hl
    have hj : j < ns.length := by omega
    rw [atI_at rfl hj, List.getElem?_eq_getElem hj, WO_some]
    generalize ns[j] = cell
    exact w_urn_fin hk hk2 h
  · exact w_urn_fin hk hk2 h
@[simp] theorem atI_one {α : Type} (x y : α) (xs : List α) : atI (x :: y :: xs) 1 = some y := by
  have := atI_at (xs := x :: y :: xs) (i := 1) (k := 1) rfl (by simp)
  exact this
@[simp] theorem atI_two {α : Type} (x y z : α) (xs : List α) : atI (x :: y :: z :: xs) 2 = some z := by
  have := atI_at (xs := x :: y :: z :: xs) (i := 2) (k := 2) rfl (by simp)
  exact this
@[simp] theorem ixN30 : ixN 3 0 = some 0 := rfl
@[simp] theorem ixN31 : ixN 3 1 = some 1 := rfl
@[simp] theorem ixN32 : ixN 3 2 = some 2 := rfl
theorem WO_atI {xs : List PyData} {i : Int} {P : PyData → Prop} (h0 : 0 ≤ i) (h1 : i < xs.length) (h : ∀ (k : Nat) (d : PyData), i = (k : Nat) → xs[k]? = some d → P d) : WO (atI xs i) P := by
  obtain ⟨k, rfl⟩ : ∃ k : Nat, i = (k : Nat) := ⟨i.toNat, by omega⟩
  have hk : k < xs.length := by omega
  rw [atI_at rfl hk, List.getElem?_eq_getElem hk]
  exact h k _ rfl (List.getElem?_eq_getElem hk)
theorem w_next {i : Nat} {n : Int} {u : Cl} {m : Int} (hu : st[i]? = some u) (hU : Urn m u) (hm : m < 2 ^ 200) (hn : 0 < n) (hn2 : n < 2 ^ 200) (h : ∀ (r : Int) (u' : Cl), 0 ≤ r → r < n → Urn (m + 1) u' → P (.d (.int r)) (st.set i u')) : WVe noE (semU_next [.c i, .d (.int n)] st) P := by
  obtain ⟨a, b, c, rfl, h1, h2, h3, h4, h5⟩ := hU
  unfold semU_next sbU_next
  rw [W_body]
  have hi : i < st.length := (List.getElem?_eq_some_iff.mp hu).1
  have hset : ∀ c, (st.set i c)[i]? = some c := fun c => List.getElem?_set_self hi
  have hm2 : c + 1 < 2 ^ 201 := by omega
  have hsq : 0 ≤ (c + 1) * (c + 1) ∧ (c + 1) * (c + 1) < 2 ^ 402 := by
    have h7 : (0 : Int) ≤ c + 1 := by omega
    refine ⟨Int.mul_nonneg h7 h7, ?_⟩
    have h6 : (c + 1) * (c + 1) ≤ (c + 1) * 2 ^ 201 := Int.mul_le_mul_of_nonneg_left (Int.le_of_lt hm2) h7
    have h8 : (c + 1) * 2 ^ 201 < 2 ^ 201 * 2 ^ 201 := Int.mul_lt_mul_of_pos_right hm2 (by decide)
    have h9 : (2 ^ 201 * 2 ^ 201 : Int) = 2 ^ 402 := by decide +kernel
    omega
  simp [hu, urn, hset]
  split
  · rename_i ha
    have e := Int.emod_lt_of_pos a hn
    have e2 := Int.emod_nonneg a (show n ≠ 0 by omega)
    have e3 : 0 ≤ a / n := Int.ediv_nonneg h1 (Int.le_of_lt hn)
    refine ⟨decide_eq_true hn, ?_, h _ _ e2 e ⟨a / n, b, c, rfl, e3, h2, h3, h4, by omega⟩⟩
    unfold pDiv
    have : n.natAbs < 2 ^ 200 := by omega
    have h6 : n.natAbs ≠ 0 := by omega
    have := (Nat.log2_lt h6).mpr this
    rw [decide_eq_true hn, decide_eq_true (show n.natAbs.log2 < 9000 by omega)]; rfl
  · rename_i ha
    have e0 : a = 0 := by omega
    subst e0
    have q1 : (30011 * (c + 1) * (c + 1) : Int) = 30011 * ((c + 1) * (c + 1)) := Int.mul_assoc ..
    rw [q1]
    generalize (c + 1) * (c + 1) = sq at hsq ⊢
    have k1 := Int.emod_lt_of_pos ((b + 30011 * sq + 19) * 69877) (show (0 : Int) < 2305843009213693921 by decide)
    have k2 := Int.emod_nonneg ((b + 30011 * sq + 19) * 69877) (show (2305843009213693921 : Int) ≠ 0 by decide)
    have k3 : (b + 30011 * sq + 19).natAbs < 2 ^ 420 := by omega
    generalize (b + 30011 * sq + 19) * 69877 % 2305843009213693921 = blend at k1 k2 ⊢
    have k4 := Int.emod_lt_of_pos blend (show (0 : Int) < 1000039 by decide)
    have k5 := Int.emod_nonneg blend (show (1000039 : Int) ≠ 0 by decide)
    have k6 : (blend % 1000039 + 60013 * (c + 1) + 5).natAbs < 2 ^ 220 := by omega
    generalize blend * (blend % 1000039 + 60013 * (c + 1) + 5) % 2305843009213693951 / 103 + blend * (blend % 1000039 + 60013 * (c + 1) + 5) % 2305843009213693951 / 999979 = last
    exact ⟨pMul_of (a := 20) (b := 201) (by decide) (by omega) (by decide), pMul_of (a := 220) (b := 201) (by omega) (by omega) (by decide), pMul_of (a := 420) (b := 20) k3 (by decide) (by decide), rfl, rfl,
      pMul_of (a := 20) (b := 201) (by decide) (by omega) (by decide), pMul_of (a := 62) (b := 220) (by omega) k6 (by decide), rfl, rfl, rfl, decide_eq_true hn,
      h _ _ (Int.emod_nonneg last (by omega)) (Int.emod_lt_of_pos last hn) ⟨0, b, c + 1, rfl, Int.le_refl _, h2, h3, by omega, by omega⟩⟩
@[simp] theorem take_set {α : Type} (s : List α) (i : Nat) (u : α) : (s.set i u).take s.length = s.set i u := List.take_of_length_le (by simp)
@[simp] theorem take_set1 {α : Type} (s : List α) (i : Nat) (u v : α) (hi : i < s.length) : ((s ++ [v]).set i u).take s.length = s.set i u := by rw [List.set_append_left _ _ hi]; exact List.take_left' (by simp)
@[simp] theorem take_app {α : Type} (s t : List α) : (s ++ t).take s.length = s := List.take_left' rfl
@[simp] theorem gr1 {α : Type} {s : List α} {i : Nat} {u c : α} : (s.set i u ++ [c])[s.length]? = some c := by
  rw [List.getElem?_append_right (by simp)]; simp
@[simp] theorem sr1 {α : Type} {s : List α} {i : Nat} {u c d : α} : (s.set i u ++ [c]).set s.length d = s.set i u ++ [d] := by
  rw [List.set_append_right _ _ (by simp)]; simp
@[simp] theorem tk1 {α : Type} {s : List α} {i : Nat} {u c : α} : (s.set i u ++ [c]).take s.length = s.set i u := List.take_left' (by simp)
@[simp] theorem tk2 {α : Type} {s : List α} {i : Nat} {u c : α} : (s.set i u ++ [c]).take (s.length + 1) = s.set i u ++ [c] := List.take_of_length_le (by simp)
theorem rOk_of2 {i j : Int} (h1 : -1000000000000 ≤ i) (h2 : i ≤ 1000000000000) (h3 : -1000000000000 ≤ j) (h4 : j ≤ 1000000000000) : rOk i j = true := by
  unfold rOk
  rw [decide_eq_true (by omega), decide_eq_true (by omega), decide_eq_true (by omega), decide_eq_true (by omega)]; rfl
@[simp] theorem gr0 {α : Type} {s : List α} {c : α} : (s ++ [c])[s.length]? = some c := by simp
theorem rngD_get {lo hi : Int} {i : Nat} {d : PyData} (h : (rngD lo hi)[i]? = some d) : d = .int (lo + i) ∧ (i : Int) < hi - lo := by
  unfold rngD at h
  rw [List.getElem?_map] at h
  obtain ⟨k, h1, rfl⟩ := Option.map_eq_some_iff.mp h
  obtain ⟨h2, h3⟩ := List.getElem?_eq_some_iff.mp h1
  rw [List.getElem_range] at h3
  rw [List.length_range] at h2
  subst h3
  exact ⟨rfl, by omega⟩
/-- one of several -/
theorem w_of {i : Nat} {xs : List PyData} {u : Cl} {m : Int} (hu : st[i]? = some u) (hU : Urn m u) (hm : m < 2 ^ 200) (hx : xs ≠ []) (hx2 : xs.length ≤ sizeLine) (h : ∀ (x : PyData) (u' : Cl), x ∈ xs → Urn (m + 1) u' → P (.d x) (st.set i u')) :
    WVe noE (semU_of [.c i, .d (.list xs)] st) P := by
  unfold semU_of sbU_of
  rw [W_body]
  have hl : 0 < xs.length := List.length_pos_iff.mpr hx
  have hs : sizeLine = 16777216 := rfl
  simp
  refine w_next hu hU hm (by omega) (by omega) fun r u' h0 h1 hU' => ?_
  simp
  exact WO_atI h0 h1 fun k d _ hd => h d u' (List.mem_of_getElem? hd) hU'
end
end Cp
/-! Cw: texts: their lengths, what is shown of data. -/
namespace Cp
open PySem L2
/-- a text of at most n signs -/
def Txs (n : Nat) (x : Str) : Prop := x.length ≤ n ∧ ∀ c ∈ x.cps.toList, c < 0x110000
theorem Txs.mono {n m : Nat} {x : Str} (h : Txs n x) (k : n ≤ m) : Txs m x := ⟨Nat.le_trans h.1 k, h.2⟩
theorem Txs.ofString {n : Nat} (s : String) (h : s.length ≤ n) : Txs n (Str.ofString s) := by
  rw [Str.ofString_eq_toList]
  refine ⟨?_, fun c hc => ?_⟩
  · show (s.toList.map Char.toNat).toArray.size ≤ n
    rw [List.size_toArray, List.length_map, String.length_toList]; exact h
  · have hc' : c ∈ s.toList.map Char.toNat := by simpa using hc
    obtain ⟨ch, _, rfl⟩ := List.mem_map.mp hc'
    have h := ch.valid
    have e : ch.toNat = ch.val.toNat := rfl
    simp only [UInt32.isValidChar, Nat.isValidChar] at h
    have : ch.val.toNat < 1114112 := by omega
    rw [e]
    exact this
theorem Txs.int {k : Nat} {i : Int} (hk : 0 < k) (h : i.natAbs < 10 ^ k) : Txs (k + 1) (txI i) := Txs.ofString _ (int_text_length_le10 hk h)
theorem Txs.int2 {k : Nat} {i : Int} (hk : 0 < k) (h : i.natAbs.log2 < k) : Txs (k + 1) (Str.ofString (toString i)) := Txs.ofString _ (int_text_length_le hk h)
theorem log_small {i : Int} {k : Nat} (h : i.natAbs < 2 ^ k) (hk : k < 1920) : i.natAbs.log2 < 1920 := by
  by_cases hn : i.natAbs = 0
  · rw [hn]; decide
  · exact Nat.lt_trans ((Nat.log2_lt hn).mpr h) hk
/-! ### what is shown -/
mutual
def siz : PyData → Nat
  | .none | .bool _ => 5
  | .int i => i.natAbs.log2 + 2
  | .str x => 10 * x.length + 2
  | .list xs | .tuple xs => sizAll xs + 3
  | .dict kvs => sizKv kvs + 3
def sizAll : List PyData → Nat
  | [] => 0
  | x :: xs => siz x + 2 + sizAll xs
def sizKv : List (PyData × PyData) → Nat
  | [] => 0
  | (k, v) :: r => siz k + siz v + 4 + sizKv r
end
mutual
def okS : PyData → Prop
  | .none | .bool _ => True
  | .int i => i.natAbs.log2 < 1920
  | .str x => ∀ c ∈ x.cps.toList, c < 0x110000
  | .list xs | .tuple xs => okSs xs
  | .dict _ => False
def okSs : List PyData → Prop
  | [] => True
  | x :: xs => okS x ∧ okSs xs
end
theorem join_len (ts : List Str) : (Str.join ", " ts).length ≤ (ts.map fun t => t.length + 2).sum := by
  induction ts with
  | nil => exact Nat.zero_le _
  | cons t r ih =>
    cases r with
    | nil => show t.length ≤ _; simp
    | cons u r =>
      show (t ++ ", " ++ Str.join ", " (u :: r)).length ≤ _
      rw [strLen_append, strLen_append, List.map_cons, List.sum_cons]
      have e2 : ((", " : String) : Str).length = 2 := rfl
      omega
theorem text_len (ts : List Str) : (PySem.listText ts).length ≤ (ts.map fun t => t.length + 2).sum + 2 := by
  have h : ∀ (ts : List Str) (k : Nat) (acc : Str), (PySem.textFrom k acc ts).length ≤ acc.length + (ts.map fun t => t.length + 2).sum := by
    intro ts
    induction ts with
    | nil => intro k acc; exact Nat.le_add_right _ _
    | cons t r ih =>
      intro k acc
      show (PySem.textFrom (k + 1) (acc ++ (if k > 0 then ", " else "" : String) ++ t) r).length ≤ _
      refine Nat.le_trans (ih _ _) ?_
      rw [strLen_append, strLen_append, List.map_cons, List.sum_cons]
      have e : ((if k > 0 then ", " else "" : String) : Str).length ≤ 2 := by split <;> decide
      omega
  show (PySem.textFrom 0 "[" ts ++ "]").length ≤ _
  rw [strLen_append]
  have := h ts 0 "["
  have e1 : (("[" : String) : Str).length = 1 := rfl
  have e2 : (("]" : String) : Str).length = 1 := rfl
  omega
mutual
theorem shown_ok : ∀ {d : PyData}, okS d → d.showable = true ∧ d.hasDict = false ∧ d.shown.length ≤ siz d
  | .none, _ => ⟨rfl, rfl, by decide⟩
  | .bool b, _ => ⟨rfl, rfl, by cases b <;> decide⟩
  | .int i, h => ⟨decide_eq_true h, rfl, (Txs.int2 (i := i) (k := i.natAbs.log2 + 1) (Nat.succ_pos _) (Nat.lt_succ_self _)).1⟩
  | .str x, h => ⟨rfl, rfl, PySem.StrLaws.reprText_len x fun c hc => Nat.lt_trans (h c hc) (by decide)⟩
  | .list xs, h => by
    obtain ⟨h1, h2, h3⟩ := shown_oks h
    refine ⟨h1, h2, ?_⟩
    show (PySem.listText (PyData.shownAll xs)).length ≤ sizAll xs + 3
    have := text_len (PyData.shownAll xs)
    omega
  | .tuple xs, h => by
    obtain ⟨h1, h2, h3⟩ := shown_oks h
    refine ⟨h1, h2, ?_⟩
    show (("(" : Str) ++ Str.join ", " (PyData.shownAll xs) ++ (if (PyData.shownAll xs).length == 1 then ",)" else ")" : String)).length ≤ sizAll xs + 3
    rw [strLen_append, strLen_append]
    have := join_len (PyData.shownAll xs)
    have e1 : (("(" : String) : Str).length = 1 := rfl
    have e : ((if (PyData.shownAll xs).length == 1 then ",)" else ")" : String) : Str).length ≤ 2 := by split <;> decide
    omega
  | .dict _, h => False.elim h
theorem shown_oks : ∀ {ds : List PyData}, okSs ds → PyData.showableAll ds = true ∧ PyData.hasDictAll ds = false ∧ ((PyData.shownAll ds).map fun t => t.length + 2).sum ≤ sizAll ds
  | [], _ => ⟨rfl, rfl, Nat.le_refl _⟩
  | d :: ds, h => by
    obtain ⟨h1, h2, h3⟩ := shown_ok h.1
    obtain ⟨k1, k2, k3⟩ := shown_oks h.2
    refine ⟨?_, ?_, ?_⟩
    · show (d.showable && PyData.showableAll ds) = true; rw [h1, k1]; rfl
    · show (d.hasDict || PyData.hasDictAll ds) = false; rw [h2, k2]; rfl
    · show ((d.shown :: PyData.shownAll ds).map _).sum ≤ _
      rw [List.map_cons, List.sum_cons]
      show _ ≤ siz d + 2 + sizAll ds
      omega
end
theorem fRepr_at {d : PyData} (h : okS d) (hs : siz d ≤ sizeLine) (hd : d.depth ≤ 60) : fRepr d = some (.d (.str d.shown)) := by
  obtain ⟨h1, h2, h3⟩ := shown_ok h
  have : shw d = true := by
    unfold shw
    rw [h1, h2, decide_eq_true (Nat.le_trans h3 hs), decide_eq_true hd]; rfl
  unfold fRepr
  rw [if_pos this]
theorem okSs_of : ∀ {ds : List PyData}, (∀ d ∈ ds, okS d) → okSs ds
  | [], _ => trivial
  | d :: ds, h => ⟨h d (List.mem_cons_self ..), okSs_of fun e he => h e (List.mem_cons_of_mem _ he)⟩
theorem depthAll_le {B : Nat} : ∀ {ds : List PyData}, (∀ d ∈ ds, d.depth ≤ B) → PyData.depthAll ds ≤ B
  | [], _ => Nat.zero_le _
  | d :: ds, h => Nat.max_le.mpr ⟨h d (List.mem_cons_self ..), depthAll_le fun e he => h e (List.mem_cons_of_mem _ he)⟩
/-! ### signs -/
theorem chr_lt (ch : Char) : ch.toNat < 0x110000 := by
  have h := ch.valid
  have e : ch.toNat = ch.val.toNat := rfl
  simp only [UInt32.isValidChar, Nat.isValidChar] at h
  rw [e]; omega
abbrev Sgn (x : Str) : Prop := ∀ c ∈ x.cps.toList, c < 0x110000
theorem Sgn.add {x y : Str} (h : Sgn x) (k : Sgn y) : Sgn (x ++ y) := fun c hc => by
  have e : (x ++ y).cps.toList = x.cps.toList ++ y.cps.toList := by
    show (x.cps ++ y.cps).toList = _
    rw [Array.toList_append]
  rw [e, List.mem_append] at hc
  exact hc.elim (h c) (k c)
theorem Sgn.lit (s : String) : Sgn (Str.ofString s) := (Txs.ofString (n := s.length) s (Nat.le_refl _)).2
theorem reprChar_lt {q c : Nat} (hc : c < 0x110000) : ∀ d ∈ Builtin.Str.reprChar q c, d < 0x110000 := by
  have hx : ∀ w d, d ∈ List.replicate (w - ((Nat.toDigits 16 c).map Char.toNat).length) 48 ++ (Nat.toDigits 16 c).map Char.toNat → d < 0x110000 := fun w d hd => by
    rcases List.mem_append.mp hd with h | h
    · rw [(List.mem_replicate.mp h).2]; decide
    · obtain ⟨ch, _, rfl⟩ := List.mem_map.mp h; exact chr_lt ch
  intro d hd
  unfold Builtin.Str.reprChar at hd
  simp only [] at hd
  split at hd
  · rcases List.mem_cons.mp hd with rfl | h
    · decide
    · rw [List.mem_singleton.mp h]; exact hc
  split at hd
  · rcases List.mem_cons.mp hd with rfl | h
    · decide
    · rw [List.mem_singleton.mp h]; decide
  split at hd
  · rcases List.mem_cons.mp hd with rfl | h
    · decide
    · rw [List.mem_singleton.mp h]; decide
  split at hd
  · rcases List.mem_cons.mp hd with rfl | h
    · decide
    · rw [List.mem_singleton.mp h]; decide
  split at hd
  · rw [List.mem_singleton.mp hd]; exact hc
  have two : ∀ w b, d ∈ [92, b] ++ (List.replicate (w - ((Nat.toDigits 16 c).map Char.toNat).length) 48 ++ (Nat.toDigits 16 c).map Char.toNat) → b < 0x110000 → d < 0x110000 := fun w b h hb => by
    rcases List.mem_append.mp h with h | h
    · rcases List.mem_cons.mp h with rfl | h
      · decide
      · rw [List.mem_singleton.mp h]; exact hb
    · exact hx w d h
  split at hd
  · exact two 2 120 hd (by decide)
  split at hd
  · exact two 4 117 hd (by decide)
  · exact two 8 85 hd (by decide)
theorem repr_sgn {x : Str} (h : Sgn x) : Sgn (reprText x) := by
  have hq : reprQuote x < 0x110000 := by
    unfold reprQuote
    split <;> decide
  have key : ∀ (l : List Nat) (acc : Array Nat), (∀ c ∈ l, c < 0x110000) → (∀ c ∈ acc.toList, c < 0x110000) → ∀ c ∈ (l.foldl (fun out c => out ++ (Builtin.Str.reprChar (reprQuote x) c).toArray) acc).toList, c < 0x110000 := by
    intro l
    induction l with
    | nil => intro acc _ h2; exact h2
    | cons a r ih =>
      intro acc h1 h2
      refine ih _ (fun c hc => h1 c (List.mem_cons_of_mem _ hc)) fun c hc => ?_
      rw [Array.toList_append, List.mem_append] at hc
      rcases hc with hc | hc
      · exact h2 c hc
      · exact reprChar_lt (h1 a (List.mem_cons_self ..)) c (by simpa using hc)
  intro c hc
  have e : (reprText x).cps.toList = (x.cps.toList.foldl (fun out c => out ++ (Builtin.Str.reprChar (reprQuote x) c).toArray) #[reprQuote x]).toList ++ [reprQuote x] := by
    unfold reprText
    rw [Array.toList_push, ← Array.foldl_toList]
  rw [e, List.mem_append] at hc
  rcases hc with hc | hc
  · refine key _ _ h (fun d hd => ?_) c hc
    have : d = reprQuote x := by simpa using hd
    rw [this]; exact hq
  · rw [List.mem_singleton.mp hc]; exact hq
theorem join_sgn {sep : Str} (hs : Sgn sep) : ∀ {ts : List Str}, (∀ t ∈ ts, Sgn t) → Sgn (Str.join sep ts)
  | [], _ => fun c hc => by simp [Str.join, Str.empty] at hc
  | [t], h => h t (List.mem_cons_self ..)
  | t :: u :: r, h => Sgn.add (Sgn.add (h t (List.mem_cons_self ..)) hs) (join_sgn hs fun z hz => h z (List.mem_cons_of_mem _ hz))
theorem text_sgn {ts : List Str} (h : ∀ t ∈ ts, Sgn t) : Sgn (PySem.listText ts) := by
  have key : ∀ (ts : List Str) (k : Nat) (acc : Str), Sgn acc → (∀ t ∈ ts, Sgn t) → Sgn (PySem.textFrom k acc ts) := by
    intro ts
    induction ts with
    | nil => intro k acc h _; exact h
    | cons t r ih =>
      intro k acc h1 h2
      refine ih (k + 1) _ (Sgn.add (Sgn.add h1 (Sgn.lit _)) (h2 t (List.mem_cons_self ..))) fun z hz => h2 z (List.mem_cons_of_mem _ hz)
  exact Sgn.add (key ts 0 _ (Sgn.lit _) h) (Sgn.lit _)
mutual
theorem shown_sgn : ∀ {d : PyData}, okS d → Sgn d.shown
  | .none, _ => Sgn.lit _
  | .bool b, _ => by cases b <;> exact Sgn.lit _
  | .int i, h => Sgn.lit _
  | .str x, h => repr_sgn h
  | .list xs, h => text_sgn (shown_sgns h)
  | .tuple xs, h => Sgn.add (Sgn.add (Sgn.lit _) (join_sgn (Sgn.lit _) (shown_sgns h))) (Sgn.lit _)
  | .dict _, h => False.elim h
theorem shown_sgns : ∀ {ds : List PyData}, okSs ds → ∀ t ∈ PyData.shownAll ds, Sgn t
  | [], _ => fun t ht => nomatch ht
  | d :: ds, h => fun t ht => by
    rcases List.mem_cons.mp ht with rfl | ht
    · exact shown_sgn h.1
    · exact shown_sgns h.2 t ht
end
/-! ### alike or not -/
mutual
theorem canLay_ok : ∀ {d : PyData}, okS d → d.canLay0 = true
  | .none, _ => rfl
  | .bool b, _ => rfl
  | .int i, h => rfl
  | .str x, h => by
    show x.cps.all (· < 0x110000) = true
    rw [Array.all_eq_true']
    intro c hc
    exact decide_eq_true (h c (by simpa using hc))
  | .list xs, h => canLay_oks h
  | .tuple xs, h => canLay_oks h
  | .dict _, h => False.elim h
theorem canLay_oks : ∀ {ds : List PyData}, okSs ds → PyData.canLayAll0 ds = true
  | [], _ => rfl
  | d :: ds, h => by
    show (d.canLay0 && PyData.canLayAll0 ds) = true
    rw [canLay_ok h.1, canLay_oks h.2]; rfl
end
theorem shaped_ok {d : PyData} (h : okS d) (hd : d.depth ≤ 64) : SeqAt.shaped d = true := by
  unfold SeqAt.shaped
  rw [canLay_ok h, decide_eq_true hd]; rfl
theorem gNe_at {a b : PyData} (ha : okS a) (hb : okS b) (hda : a.depth ≤ 64) (hdb : b.depth ≤ 64) : gNe a b = some (!PyData.eqv a b) := by
  unfold gNe
  rw [shaped_ok ha hda, shaped_ok hb hdb]; rfl
theorem gEq_at {a b : PyData} (ha : okS a) (hb : okS b) (hda : a.depth ≤ 64) (hdb : b.depth ≤ 64) : gEq a b = some (PyData.eqv a b) := by
  unfold gEq
  rw [shaped_ok ha hda, shaped_ok hb hdb]; rfl
mutual
theorem eqv_refl : ∀ {d : PyData}, d.canLay0 = true → PyData.eqv d d = true
  | .none, _ => rfl
  | .bool b, _ => by cases b <;> rfl
  | .int i, _ => by show (i == i) = true; simp
  | .str x, _ => by show (x == x) = true; simp
  | .list xs, h => eqv_refls h
  | .tuple xs, h => eqv_refls h
  | .dict _, h => by cases h
theorem eqv_refls : ∀ {ds : List PyData}, PyData.canLayAll0 ds = true → PyData.eqvAll ds ds = true
  | [], _ => rfl
  | d :: ds, h => by
    have h' : (d.canLay0 && PyData.canLayAll0 ds) = true := h
    rw [Bool.and_eq_true] at h'
    show (PyData.eqv d d && PyData.eqvAll ds ds) = true
    rw [eqv_refl h'.1, eqv_refls h'.2]; rfl
end
theorem gNe_same {d : PyData} (h : SeqAt.shaped d = true) : gNe d d = some false := by
  unfold gNe
  rw [h]
  show some (!PyData.eqv d d) = _
  rw [eqv_refl (SeqAt.canLay_of_shaped h)]; rfl
theorem eqv_str (x y : Str) : PyData.eqv (.str x) (.str y) = decide (x = y) := by
  show (x == y) = _
  by_cases h : x = y <;> simp [h]
theorem gNe_str {x y : Str} (hx : Sgn x) (hy : Sgn y) : gNe (.str x) (.str y) = some (!decide (x = y)) := by
  rw [gNe_at (a := .str x) (b := .str y) hx hy (Nat.zero_le _) (Nat.zero_le _), eqv_str]
theorem gEq_str {x y : Str} (hx : Sgn x) (hy : Sgn y) : gEq (.str x) (.str y) = some (decide (x = y)) := by
  rw [gEq_at (a := .str x) (b := .str y) hx hy (Nat.zero_le _) (Nat.zero_le _), eqv_str]
@[simp] theorem gEq_int (x y : Int) : gEq (.int x) (.int y) = some (decide (x = y)) := by
  unfold gEq
  rw [if_pos (by rfl)]
  have : PyData.eqv (.int x) (.int y) = decide (x = y) := by
    show (x == y) = _
    by_cases h : x = y <;> simp [h]
  rw [this]
end Cp
/-! Pg: policies as a Lean type, the laws' drawn policies. -/
namespace Cp
open PySem L2
noncomputable def sbP_inner : Sv := (sSeq (sIf (mCmp (gIn false) (mBin fIx (mN 0) (mK (.int 0))) (mTup (aCons (mV (mK (.str "call"))) (aCons (mV (mK (.str "wait"))) aNil)))) (sRet (mTup aNil)) sNil) (sRet (eIf (mCmp (gIn false) (mBin fIx (mN 0) (mK (.int 0))) (mTup (aCons (mV (mK (.str "then"))) (aCons (mV (mK (.str "both"))) aNil)))) (mSl (mN 0) (oSome (mK (.int 1))) oNone) (mSl (mN 0) (oSome (mK (.int 2))) oNone))))
noncomputable def semP_inner : Fs := bodyF 1 1 sbP_inner
/-! ### texts written out -/
theorem ofS_inj {a b : String} (h : Str.ofString a = Str.ofString b) : a = b := by
  rw [Str.ofString_eq_toList, Str.ofString_eq_toList] at h
  have h1 : (a.toList.map Char.toNat).toArray = (b.toList.map Char.toNat).toArray := congrArg Str.cps h
  have h2 : a.toList.map Char.toNat = b.toList.map Char.toNat := by simpa using h1
  have inj : ∀ (x y : List Char), x.map Char.toNat = y.map Char.toNat → x = y := by
    intro x
    induction x with
    | nil => intro y h; cases y with
      | nil => rfl
      | cons _ _ => cases h
    | cons c x ih => intro y h; cases y with
      | nil => cases h
      | cons d y =>
        rw [List.map_cons, List.map_cons] at h
        injection h with e1 e2
        have : c = d := Char.ext (UInt32.toNat_inj.mp e1)
        rw [this, ih y e2]
  exact String.toList_inj.mp (inj _ _ h2)
@[simp] theorem ofS_eq (a b : String) : (Str.ofString a = Str.ofString b) = (a = b) := propext ⟨ofS_inj, fun h => by rw [h]⟩
@[simp] theorem ofS_beq (a b : String) : (Str.ofString a == Str.ofString b) = decide (a = b) := by
  by_cases h : a = b
  · subst h; simp
  · have : ¬ Str.ofString a = Str.ofString b := fun z => h (ofS_inj z)
    simp [h]
theorem sgn_ofS (s : String) : Sgn (Str.ofString s) := (Txs.ofString (n := s.length) s (Nat.le_refl _)).2
@[simp] theorem gEq_lit (a b : String) : gEq (.str (Str.ofString a)) (.str (Str.ofString b)) = some (decide (a = b)) := by
  rw [gEq_str (sgn_ofS a) (sgn_ofS b)]; simp
@[simp] theorem gNe_lit (a b : String) : gNe (.str (Str.ofString a)) (.str (Str.ofString b)) = some (!decide (a = b)) := by
  rw [gNe_str (sgn_ofS a) (sgn_ofS b)]; simp
@[simp] theorem gNe_int (x y : Int) : gNe (.int x) (.int y) = some (!decide (x = y)) := by
  have h := gEq_int x y
  unfold gEq at h
  unfold gNe
  split at h
  · rename_i hh
    rw [if_pos hh]
    injection h with h
    rw [h]
  · cases h
/-! ### policies -/
inductive Two where
  | thn | both
inductive Num where
  | fall | race | hedge
def Two.s : Two → String
  | .thn => "then"
  | .both => "both"
def Num.s : Num → String
  | .fall => "fallback"
  | .race => "race"
  | .hedge => "hedge"
abbrev Span := Option (Int × Int)
inductive Pol where
  | call (l : Str) (g b : Span) (h : Bool)
  | wait (n : Int)
  | two (k : Two) (a b : Pol)
  | num (k : Num) (n : Option Int) (a b : Pol)
  | retry (ps : List Int) (a : Pol)
  | tmo (n : Option Int) (a : Pol)
def spD : Span → PyData
  | none => .none
  | some p => .tuple [.int p.1, .int p.2]
def nuD : Option Int → PyData
  | none => .none
  | some n => .int n
def Pol.pd : Pol → PyData
  | .call l g b h => .tuple [.str "call", .str l, spD g, spD b, .bool h]
  | .wait n => .tuple [.str "wait", .int n]
  | .two k a b => .tuple [.str k.s, a.pd, b.pd]
  | .num k n a b => .tuple [.str k.s, nuD n, a.pd, b.pd]
  | .retry ps a => .tuple [.str "retry", .tuple (ps.map PyData.int), a.pd]
  | .tmo n a => .tuple [.str "timeout", nuD n, a.pd]
def Pol.inn : Pol → List Pol
  | .call _ _ _ _ => []
  | .wait _ => []
  | .two _ a b => [a, b]
  | .num _ _ a b => [a, b]
  | .retry _ a => [a]
  | .tmo _ a => [a]
def Pol.kind : Pol → String
  | .call _ _ _ _ => "call"
  | .wait _ => "wait"
  | .two k _ _ => k.s
  | .num k _ _ _ => k.s
  | .retry _ _ => "retry"
  | .tmo _ _ => "timeout"
def Pol.size : Pol → Nat
  | .call _ _ _ _ => 1
  | .wait _ => 1
  | .two _ a b => 1 + a.size + b.size
  | .num _ _ a b => 1 + a.size + b.size
  | .retry _ a => 1 + a.size
  | .tmo _ a => 1 + a.size
def Pol.depth : Pol → Nat
  | .call _ _ _ _ => 1
  | .wait _ => 1
  | .two _ a b => 1 + max a.depth b.depth
  | .num _ _ a b => 1 + max a.depth b.depth
  | .retry _ a => 1 + a.depth
  | .tmo _ a => 1 + a.depth
/-- numbers as drawn: spans up to L, numbers up to L + 1, at most two pauses up to 2 -/
def spB (L : Int) : Span → Prop
  | none => True
  | some p => 0 ≤ p.1 ∧ p.1 ≤ p.2 ∧ p.2 ≤ L
def nuB (L : Int) : Option Int → Prop
  | none => True
  | some n => 0 ≤ n ∧ n ≤ L
def Pol.Bnd (L : Int) : Pol → Prop
  | .call _ g b h => spB L g ∧ spB L b ∧ (g = none → b ≠ none)
  | .wait n => 0 ≤ n ∧ n ≤ L
  | .two _ a b => a.Bnd L ∧ b.Bnd L
  | .num _ n a b => nuB (L + 1) n ∧ a.Bnd L ∧ b.Bnd L
  | .retry ps a => (ps.length ≤ 2 ∧ ∀ x ∈ ps, 0 ≤ x ∧ x ≤ 2) ∧ a.Bnd L
  | .tmo n a => nuB (L + 1) n ∧ a.Bnd L
/-! ### two cells of a store -/
/-- the store with u at i and l at j -/
def s2 (st : Sto) (i j : Nat) (u l : Cl) : Sto := (st.set i u).set j l
end Cp
/-! Pw: the laws' drawn policies, walked. -/
namespace Cp
open PySem L2
section
variable {E : Er → Sto → Prop} {st : Sto} {P : Rv → Sto → Prop}
/-! ### inner -/
theorem szl : sizeLine = 16777216 := rfl
@[simp] theorem frz_m (k : List (PyData × PyData)) : frz (.n (.m k)) = .d (.dict k) := rfl
theorem cut3 (a b c : PyData) : cutD [a, b, c] (some 2) none = [c] := rfl
theorem cut4 (a b c d : PyData) : cutD [a, b, c, d] (some 2) none = [c, d] := rfl
theorem cut31 (a b c : PyData) : cutD [a, b, c] (some 1) none = [b, c] := rfl
theorem w_inner {p : Pol} (h : P (.d (.tuple (p.inn.map Pol.pd))) st) : WVe E (semP_inner [.d p.pd] st) P := by
  unfold semP_inner sbP_inner
  rw [W_body]
  cases p with
  | call l g b hh => simp [Pol.pd, Pol.inn, gIn, itemsD, flatD, eqF, szl]; exact h
  | wait n => simp [Pol.pd, Pol.inn, gIn, itemsD, flatD, eqF, szl]; exact h
  | two k a b => cases k <;> simp [Pol.pd, Pol.inn, Two.s, gIn, itemsD, flatD, eqF, cut31, szl] <;> exact h
  | num k n a b => cases k <;> simp [Pol.pd, Pol.inn, Num.s, gIn, itemsD, flatD, eqF, cut4, szl] <;> exact h
  | retry ps a => simp [Pol.pd, Pol.inn, gIn, itemsD, flatD, eqF, cut3, szl]; exact h
  | tmo n a => simp [Pol.pd, Pol.inn, gIn, itemsD, flatD, eqF, cut3, szl]; exact h
/-! ### what is drawn -/
variable {i j : Nat} {u : Cl} {m L : Int}
end
end Cp
/-! Pz: the laws' drawn policies, grown. -/
namespace Cp
open PySem L2
theorem seq_cut {E : Er → Sto → Prop} {x y : Sv} {ρ : En} {st : Sto} {N B C : En → Sto → Prop} {R : Rv → Sto → Prop} (I : En → Sto → Prop) (h1 : WSe E (x ρ st) I B C R) (h2 : ∀ ρ s, I ρ s → WSe E (y ρ s) N B C R) : WSe E (sSeq x y ρ st) N B C R := by
  unfold sSeq
  cases q : x ρ st with
  | nx ρ' s => rw [q] at h1; exact h2 _ _ h1
  | bk ρ' s => rw [q] at h1; exact h1
  | ct ρ' s => rw [q] at h1; exact h1
  | rt r s => rw [q] at h1; exact h1
  | er e s => rw [q] at h1; exact h1
  | no => rw [q] at h1; exact h1
end Cp
/-! Pk: keys of policies: counted, listed. -/
namespace Cp
open PySem L2
noncomputable def sbP_count_keys (sem : Fs) : Sv := (sSeq (sIf (mCmp gEq (mBin fIx (mN 0) (mK (.int 0))) (mK (.str "call"))) (sRet (mK (.int 1))) sNil) (sSeq (sAsg (gNm 1) (mV (mCal (g1 fSum) (aCons (mV (mLc (iOf (mCall semP_inner (aCons (mV (mN 0)) aNil))) (gNm 2) ttY (mCall sem (aCons (mV (mN 2)) aNil)) [2])) aNil)))) (sRet (eIf (mCmp gEq (mBin fIx (mN 0) (mK (.int 0))) (mK (.str "retry"))) (mBin fMulA (mN 1) (mBin fAdd (mCal (gLen) (aCons (mV (mBin fIx (mN 0) (mK (.int 1)))) aNil)) (mK (.int 1)))) (mN 1)))))
noncomputable def semP_count_keys : Nat → Fs
  | 0 => fun _ _ => .no
  | n + 1 => bodyF 3 1 (sbP_count_keys (semP_count_keys n))
noncomputable def sbP_check_keys : Sv := (sIf (mCmp (gI fun i j => decide (j < i)) (mCall (semP_count_keys 12) (aCons (mV (mN 0)) aNil)) (mK (.int 500))) (sRaise "TooManyKeys") sNil)
noncomputable def semP_check_keys : Fs := bodyF 1 1 sbP_check_keys
/-! ### keys -/
abbrev Ky := Str × List Int
def kyD (k : Ky) : PyData := .tuple [.str k.1, .tuple (k.2.map PyData.int)]
def Pol.cnt : Pol → Nat
  | .call _ _ _ _ => 1
  | .wait _ => 0
  | .two _ a b => a.cnt + b.cnt
  | .num _ _ a b => a.cnt + b.cnt
  | .retry ps a => a.cnt * (ps.length + 1)
  | .tmo _ a => a.cnt
/-- retries that are not too long -/
def Pol.Few (n : Nat) : Pol → Prop
  | .call _ _ _ _ => True
  | .wait _ => True
  | .two _ a b => a.Few n ∧ b.Few n
  | .num _ _ a b => a.Few n ∧ b.Few n
  | .retry ps a => ps.length ≤ n ∧ a.Few n
  | .tmo _ a => a.Few n
theorem Pol.Bnd.few {L : Int} : ∀ {p : Pol}, p.Bnd L → p.Few 2
  | .call _ _ _ _, _ => trivial
  | .wait _, _ => trivial
  | .two _ _ _, h => ⟨Bnd.few h.1, Bnd.few h.2⟩
  | .num _ _ _ _, h => ⟨Bnd.few h.2.1, Bnd.few h.2.2⟩
  | .retry _ _, h => ⟨h.1.1, Bnd.few h.2⟩
  | .tmo _ a, h => Bnd.few (p := a) h.2
section
variable {E : Er → Sto → Prop} {st : Sto} {P : Rv → Sto → Prop}
/-- the parts' own -/
theorem inn_depth {p q : Pol} (h : q ∈ p.inn) : q.depth + 1 ≤ p.depth := by
  cases p with
  | call _ _ _ _ => exact absurd h (by simp [Pol.inn])
  | wait _ => exact absurd h (by simp [Pol.inn])
  | two k a b => simp [Pol.inn] at h; rcases h with rfl | rfl <;> simp only [Pol.depth] <;> omega
  | num k n a b => simp [Pol.inn] at h; rcases h with rfl | rfl <;> simp only [Pol.depth] <;> omega
  | retry ps a => simp [Pol.inn] at h; subst h; simp only [Pol.depth]; omega
  | tmo n a => simp [Pol.inn] at h; subst h; simp only [Pol.depth]; omega
theorem inn_few {n : Nat} {p q : Pol} (hp : p.Few n) (h : q ∈ p.inn) : q.Few n := by
  cases p with
  | call _ _ _ _ => exact absurd h (by simp [Pol.inn])
  | wait _ => exact absurd h (by simp [Pol.inn])
  | two k a b => simp [Pol.inn] at h; exact h.elim (fun e => e ▸ hp.1) fun e => e ▸ hp.2
  | num k n a b => simp [Pol.inn] at h; exact h.elim (fun e => e ▸ hp.1) fun e => e ▸ hp.2
  | retry ps a => simp [Pol.inn] at h; subst h; exact hp.2
  | tmo n a => simp [Pol.inn] at h; subst h; exact hp
theorem inn_cnt {p q : Pol} (h : q ∈ p.inn) : q.cnt ≤ p.cnt := by
  cases p with
  | call _ _ _ _ => exact absurd h (by simp [Pol.inn])
  | wait _ => exact absurd h (by simp [Pol.inn])
  | two k a b => simp [Pol.inn] at h; rcases h with rfl | rfl <;> simp only [Pol.cnt] <;> omega
  | num k n a b => simp [Pol.inn] at h; rcases h with rfl | rfl <;> simp only [Pol.cnt] <;> omega
  | retry ps a => simp [Pol.inn] at h; subst h; show _ ≤ _ * (ps.length + 1); exact Nat.le_mul_of_pos_right _ (Nat.succ_pos _)
  | tmo n a => simp [Pol.inn] at h; subst h; exact Nat.le_refl _
theorem fIx0 (p : Pol) : fIx p.pd (.int 0) = some (.d (.str (Str.ofString p.kind))) := by
  cases p <;> simp [Pol.pd, Pol.kind]
theorem fSum_ints (ns : List Int) : fSum (.list (ns.map PyData.int)) = some (.d (.int ns.sum)) := by
  show (intsD _).map _ = _
  rw [intsD_map]; rfl
theorem kind_call {p : Pol} (h : p.kind = "call") : ∃ l g b hh, p = .call l g b hh := by
  cases p with
  | call l g b hh => exact ⟨l, g, b, hh, rfl⟩
  | wait n => simp [Pol.kind, Two.s, Num.s] at h
  | two k a b => cases k <;> simp [Pol.kind, Two.s, Num.s] at h
  | num k n a b => cases k <;> simp [Pol.kind, Two.s, Num.s] at h
  | retry ps a => simp [Pol.kind, Two.s, Num.s] at h
  | tmo n a => simp [Pol.kind, Two.s, Num.s] at h
theorem kind_retry {p : Pol} (h : p.kind = "retry") : ∃ ps a, p = .retry ps a := by
  cases p with
  | call l g b hh => simp [Pol.kind, Two.s, Num.s] at h
  | wait n => simp [Pol.kind, Two.s, Num.s] at h
  | two k a b => cases k <;> simp [Pol.kind, Two.s, Num.s] at h
  | num k n a b => cases k <;> simp [Pol.kind, Two.s, Num.s] at h
  | retry ps a => exact ⟨ps, a, rfl⟩
  | tmo n a => simp [Pol.kind, Two.s, Num.s] at h
theorem map_take_succ {α β : Type} {l : List α} {i : Nat} {q : α} (f : α → β) (h : l[i]? = some q) : (l.take (i + 1)).map f = (l.take i).map f ++ [f q] := by
  rw [List.take_succ, h, List.map_append]; rfl
theorem inn_len (p : Pol) : p.inn.length ≤ 2 := by cases p <;> simp [Pol.inn]
theorem inn_cnts {p : Pol} (h : p.kind ≠ "call") (h2 : p.kind ≠ "retry") : (p.inn.map fun q => (q.cnt : Int)).sum = p.cnt := by
  cases p with
  | call l g b hh => exact absurd rfl h
  | wait n => rfl
  | two k a b => simp [Pol.inn, Pol.cnt]
  | num k n a b => simp [Pol.inn, Pol.cnt]
  | retry ps a => exact absurd rfl h2
  | tmo n a => simp [Pol.inn, Pol.cnt]
theorem w_count : ∀ (f : Nat) {E : Er → Sto → Prop} {p : Pol} {st : Sto} {P : Rv → Sto → Prop}, p.depth ≤ f → p.Few 1000 → p.cnt < 2 ^ 90 → P (.d (.int p.cnt)) st → WVe E (semP_count_keys f [.d p.pd] st) P
  | 0, _, p, _, _, hd, _, _, _ => by cases p <;> (simp only [Pol.depth] at hd; omega)
  | f + 1, E, p, st, P, hd, hf, hc, h => by
    show WVe E (bodyF 3 1 (sbP_count_keys (semP_count_keys f)) _ _) P
    unfold sbP_count_keys
    rw [W_body]
    refine ⟨rfl, ?_⟩
    by_cases hk : p.kind = "call"
    · obtain ⟨l, g, b, hh, rfl⟩ := kind_call hk
      refine seq_cut (fun _ _ => False) ?_ (fun _ _ z => z.elim)
      simp [fIx0, Pol.kind]
      exact h
    simp [fIx0, hk]
    refine w_inner ?_
    simp
    refine lcGo_by (I := fun i s acc => s = st ∧ acc = (p.inn.take i).map fun q => PyData.int q.cnt) _ 0 [] ⟨rfl, rfl⟩ (fun _ _ _ _ => trivial) ?_ ?_
    · rintro i d s acc hd' ⟨rfl, rfl⟩
      rw [List.getElem?_map] at hd'
      obtain ⟨q, hq, rfl⟩ := Option.map_eq_some_iff.mp hd'
      have hm := List.mem_of_getElem? hq
      have h1 := inn_depth hm
      have h2 := inn_len p
      rw [Nat.zero_add, map_take_succ _ hq]
      simp [wipeE]
      refine w_count f (by omega) (inn_few hf hm) (Nat.lt_of_le_of_lt (inn_cnt hm) hc) ?_
      simp [szl]
      omega
    · rintro s acc ⟨rfl, rfl⟩
      have e : ((p.inn.take (0 + (p.inn.map Pol.pd).length)).map fun q => PyData.int q.cnt) = (p.inn.map fun q => (q.cnt : Int)).map PyData.int := by
        rw [Nat.zero_add, List.length_map, List.take_length, List.map_map]; rfl
      rw [e, fSum_ints]
      simp
      split
      · rename_i hr
        obtain ⟨ps, a, rfl⟩ := kind_retry hr
        have hps : ps.length ≤ 1000 := hf.1
        have ha : a.cnt ≤ (Pol.retry ps a).cnt := inn_cnt (p := .retry ps a) (by simp [Pol.inn])
        simp [Pol.pd, Pol.inn]
        refine ⟨pMul_of (a := 90) (b := 40) (by omega) (by omega) (by decide), ?_⟩
        have e2 : ((Pol.retry ps a).cnt : Int) = (a.cnt : Int) * ((ps.length : Int) + 1) := by show ((a.cnt * (ps.length + 1) : Nat) : Int) = _; simp
        rw [← e2]; exact h
      · rename_i hr
        rw [inn_cnts hk hr]; exact h
@[simp] theorem tkA {α : Type} (s : List α) (c : α) : (s ++ [c]).take (s.length + 1) = s ++ [c] := List.take_of_length_le (by simp)
/-! ### counted, checked, in order -/
theorem w_check {p : Pol} (hd : p.depth ≤ 12) (hf : p.Few 1000) (hc : p.cnt < 2 ^ 23) (h : p.cnt ≤ 500 → P (.d .none) st) (he : 500 < p.cnt → E ⟨Str.ofString "TooManyKeys", none⟩ st) : WVe E (semP_check_keys [.d p.pd] st) P := by
  unfold semP_check_keys sbP_check_keys
  rw [W_body]
  refine ⟨rfl, ?_⟩
  simp
  refine w_count 12 hd hf (by omega) ?_
  simp
  split
  · exact he (by omega)
  · exact h (by omega)
end
end Cp
/-! Cy: a dict from texts to defs, and the call of what it holds. -/
namespace Cp
open PySem PySem.Spec PyProof.Rows L2
section
variable {X : Cx} {C : Cn} {k j : Nat} {p pos pos1 : Pos} {d e : Expr} {es : List Expr} {md mk : Ev} {mas : En → Sto → Res (List Vl)} {keys : List (Option Expr)} {values : List Expr}
abbrev fnW (K : PySem.W.Frag) (tbl : List (Str × Str)) : List (Key × V) := tbl.map fun p => (.inr p.1, .ref (He.ga K p.2))
def mFns (tbl : List (Str × Str)) : Ev := fun _ st => .ok (.o (.fns tbl)) st
end
end Cp
/-! Cg: a tuple turned round, t[::-1]. -/
namespace Cp
open PySem PySem.Spec PyProof.Rows L2
section
variable {prog : Program} {w : World} {A : Around} {E : Value → Shared → Prop} {s : Shared}
theorem adjR (n : Nat) : Builtin.Slice.sliceAdjust none none (-1) (n : Int) = ((n : Int) - 1, -1) := by
  unfold Builtin.Slice.sliceAdjust
  rfl
theorem plcR (n : Nat) : Builtin.Slice.slicePlaces ((n : Int) - 1) (-1) (-1) = n := by
  unfold Builtin.Slice.slicePlaces
  have h1 : ¬ ((-1 : Int) > 0) := by omega
  simp only [h1, if_false, Int.neg_neg, Int.ediv_one]
  split <;> omega
theorem pckR (xs : Array Value) : ((List.range xs.size).filterMap fun (m : Nat) => xs[(((xs.size : Nat) : Int) - 1 + (m : Int) * (-1)).toNat]?).toArray = xs.toList.reverse.toArray := by
  have e : (fun (m : Nat) => xs[(((xs.size : Nat) : Int) - 1 + (m : Int) * (-1)).toNat]?) = (xs[·]?) ∘ fun k => xs.size - 1 - k := by
    funext m
    have : (((xs.size : Nat) : Int) - 1 + (m : Int) * (-1)).toNat = xs.size - 1 - m := by omega
    show xs[(((xs.size : Nat) : Int) - 1 + (m : Int) * (-1)).toNat]? = xs[xs.size - 1 - m]?
    rw [this]
  rw [e, ← List.filterMap_map, PySem.W.krv_range, List.filterMap_reverse, PySem.W.krv_all]
theorem slpR {sl : Addr} {vl vu vs : Value} {n : Nat} {R : Int × Int × Nat → Shared → Prop} (hs : s.heap.IsSliceOf sl vl vu vs) (pl : IsPart vl none) (pu : IsPart vu none) (ps : IsPart vs (some (-1))) (h : R ((n : Int) - 1, -1, n) s) :
    wpAny (model prog w) A (Builtin.Slice.sliceApplied (.ref sl) (pure (n : Int))) R E s := by
  obtain ⟨os, hos, hcs, hds⟩ := id hs
  unfold Builtin.Slice.sliceApplied Builtin.Slice.sliceFields
  refine wpAny_bind (wpAny_bind (wpAny_field hos hds (x := vl) rfl (wpAny_bind (wpAny_field hos hds (x := vu) rfl (wpAny_bind (wpAny_field hos hds (x := vs) rfl (wpAny_pure ?_)))))))
  refine wpAny_bind (HT.slicePart_ ps ?_)
  show wpAny _ _ (if ((-1 : Int) == 0) = true then _ else _) _ _ s
  rw [if_neg (by decide)]
  refine wpAny_bind (HT.slicePart_ pl (wpAny_bind (HT.slicePart_ pu (wpAny_bind (wpAny_pure ?_)))))
  show wpAny _ _ (match Builtin.Slice.sliceAdjust none none (-1) (n : Int) with | (lo, hi) => pure (lo, (-1 : Int), Builtin.Slice.slicePlaces lo hi (-1))) _ _ s
  rw [adjR]
  show wpAny _ _ (pure ((n : Int) - 1, (-1 : Int), Builtin.Slice.slicePlaces ((n : Int) - 1) (-1) (-1))) _ _ s
  rw [plcR]
  exact wpAny_pure h
theorem getR {t sl : Addr} {us : Array Value} {vl vu vs : Value} {R : Value → Shared → Prop} (ht : IsTup s.heap t us) (hs : s.heap.IsSliceOf sl vl vu vs) (pl : IsPart vl none) (pu : IsPart vu none) (ps : IsPart vs (some (-1)))
    (h : R (.ref s.heap.objs.size) { s with heap := s.heap.push { cls := .type "tuple", data := .seq us.toList.reverse.toArray } }) (hz : us.size ≤ sizeLine) : wpAny (model prog w) A (getItem (.ref t) (.ref sl)) R E s := by
  have ok : sizeOk (.seq us.toList.reverse.toArray) := by
    show us.toList.reverse.toArray.size ≤ sizeLine
    rw [List.size_toArray, List.length_reverse, Array.length_toList]
    exact hz
  obtain ⟨os, hos, hcs, hds⟩ := id hs
  have hT : s.TypeIs (.ref sl) "slice" := ⟨os, hos, hcs⟩
  unfold getItem
  try with_reducible refine wpAny_holding ?_
  first | refine wpAny_bind (wpAny_pure ?_) | skip
  refine wpAny_bind (wpAny_sequenceKey ht.typeIs (by decide) ?_)
  refine wpAny_bind (wpAny_callSpecial?_slot (name := Str.ofString "__getitem__") ht.typeIs slot_tuple_getitem (wpAny_call_entry slot_tuple_getitem ht.typeIs entry_tuple_getitem ?_ (args_tuple_getitem _ _)))
  show wpAny _ _ (Builtin.Tuple.tupleItemsOf (.ref t) >>= _) _ _ s
  refine wpAny_bind (tupleItemsOf_ ht (wpAny_bind (wpAny_typeOf hT ?_)))
  rw [if_pos (by decide)]
  refine wpAny_bind (slpR hs pl pu ps ?_)
  have no : ¬ (((((us.size : Nat) : Int) - 1) == 0 && (-1 : Int) == 1 && us.size == us.size) = true) := by
    intro q
    rw [Bool.and_eq_true, Bool.and_eq_true] at q
    exact absurd q.1.2 (by decide)
  show wpAny _ _ (if ((((us.size : Nat) : Int) - 1) == 0 && (-1 : Int) == 1 && us.size == us.size) = true then _ else _) _ _ s
  rw [if_neg no, pckR]
  first
    | exact wpAny_bind (m := Builtin.Tuple.tupleExact _) (wpAny_newObj_type (wpAny_pure ⟨_, rfl, wpAny_pure h⟩) ok)
    | exact wpAny_bind (m := Builtin.Tuple.tupleExact _) (wpAny_newObj_type (wpAny_bind (wpAny_pure (wpAny_pure ⟨_, rfl, wpAny_pure h⟩))) ok)
    | exact wpAny_bind (wpAny_bind (m := Builtin.Tuple.tupleExact _) (wpAny_newObj_type (wpAny_pure (wpAny_pure ⟨_, rfl, wpAny_pure h⟩)) ok))
    | exact wpAny_bind (wpAny_bind (m := Builtin.Tuple.tupleExact _) (wpAny_newObj_type (wpAny_pure ⟨_, rfl, wpAny_pure h⟩) ok))
end
section
variable {X : Cx} {C : Cn} {a : Expr} {ma : Ev} {p1 p2 p3 pos : Pos}
def tTurn (K : PySem.W.Frag) (te : TE) : TE := fun σ H Q => te σ H fun x H1 => ∃ a xs, x = .ref a ∧ SqT K H1 a xs ∧ ∀ p, H1 p = none → Q (.ref p) (upd H1 p (.tup xs.reverse))
theorem pe_turn {e : Expr} {te : TE} {k : Nat} (he : PE X e te) : PE X (.Subscript e (.Slice none none (some (.UnaryOp .USub (.Constant (.int 1) k p1) p2)) p3) pos) (tTurn X.K te) := by
  refine ⟨fun pins s σ H Q I h => ?_⟩
  refine Subscript_ (thn (he.run pins s σ H _ I h) fun v s1 ⟨x, H1, I1, r1, a, xs, ex, hx, q⟩ => ?_)
  subst ex
  cases r1
  have hst : PO X (some (.UnaryOp .USub (.Constant (.int 1) k p1) p2)) (tPart (tUn (rU fun i => .int (-i)) (tC (.int 1)))) := po_some (pe_un un_neg pe_int)
  refine wpAny_Slice (thn (po_none.run pins s1 σ H1 (fun o H2 => o = none ∧ H2 = H1) I1 ⟨rfl, rfl⟩) fun vl s2 ⟨l, H2, I2, pl, el, e2⟩ => ?_)
  subst el e2
  refine thn (po_none.run pins s2 σ H2 (fun o H3 => o = none ∧ H3 = H2) I2 ⟨rfl, rfl⟩) fun vu s3 ⟨u, H3, I3, pu, eu, e3⟩ => ?_
  subst eu e3
  refine thn (hst.run pins s3 σ H3 (fun o H4 => o = some (-1) ∧ H4 = H3) I3 ⟨1, rfl, -1, rfl, rfl, rfl⟩) fun vs s4 ⟨o, H4, I4, ps, eo, e4⟩ => ?_
  subst eo e4
  have I5 : L2.Inv X pins σ H4 { s4 with heap := s4.heap.push { cls := .type "slice", data := .fields #[vl, vu, vs] } } := I4.kept (t' := s4.toks) fun b ob q => Heap.get?_push_of_some _ q
  obtain ⟨us, r, ht, hz⟩ := I5.tuple hx
  have hlen := r.length
  show wpAny (model X.prog X.w) X.A (subscriptTail e (.Slice none none (some (.UnaryOp .USub (.Constant (.int 1) k p1) p2)) p3) (.ref a) (.ref s4.heap.objs.size)) (EP X pins σ Q) X.xe { s4 with heap := s4.heap.push { cls := .type "slice", data := .fields #[vl, vu, vs] } }
  refine tail_any (ops := [.ref a, .ref s4.heap.objs.size]) ht.typeIs slot_tuple_getitem.lookup ?_ (by with_unfolding_all rfl)
  refine getR ht (Heap.IsSliceOf.new _ vl vu vs) pl pu ps ?_ (by rw [List.size_toArray]; omega)
  refine ⟨.ref _, _, I5.laid (t' := s4.toks) (o := .tup xs.reverse) (fun b ob q => Heap.get?_push_of_some _ q) (Nat.le_refl _) ?_, rfl, q _ (I5.hok.fresh (Nat.le_refl _))⟩
  exact ⟨by rw [List.length_reverse]; exact hz, _, r.reverse, IsTup.new _ _⟩
/-- what is never reached -/
def mNo : Ev := fun _ _ => .no
def mTurnT (ma : Ev) : Ev := fun ρ st => (mV ma ρ st).bind fun x s => match x with
  | .d (.tuple ds) => .ok (.d (.tuple ds.reverse)) s
  | _ => .no
def mTurnL (ma : Ev) : Ev := fun ρ st => (mV ma ρ st).bind fun x s => match x with
  | .d (.list ds) => .ok (.n (.l ds.reverse)) s
  | _ => .no
def mTurn (ma : Ev) : Ev := fun ρ st => (mV ma ρ st).bind fun x s => match x with
  | .d (.tuple ds) => .ok (.d (.tuple ds.reverse)) s
  | .d (.list ds) => .ok (.n (.l ds.reverse)) s
  | _ => .no
theorem s_turnL {k : Nat} (ha : PE X a (tM C ma)) (hK : C.K.K = X.K) : PE X (.Subscript a (.Slice none none (some (.UnaryOp .USub (.Constant (.int 1) k p1) p2)) p3) pos) (tM C (mTurnL ma)) :=
  (pe_revL (pv_frz ha)).imp fun σ H Q ⟨ρ, st, μ, F, h1, h2, h3⟩ => ⟨ρ, st, μ, F, h1, h2, Post.bindV gE_lat h3 fun x s v μ1 F1 H1 x1 r1 k1 h4 => by
    cases x with
    | c _ => exact False.elim h4
    | s _ => exact False.elim h4
    | o _ => exact False.elim h4
    | d x =>
      cases x with
      | list ds =>
        cases (show Dq C.K F1 v (.list ds) from k1) with
        | lst q1 q2 => exact ⟨_, _, rfl, SqL.of (r1.sub _ _ q1), fun p hp => fin_n r1 h4 hp ⟨_, rfl, q2.rev⟩⟩
      | _ => exact False.elim h4⟩
theorem s_turnT {k : Nat} (ha : PE X a (tM C ma)) : PE X (.Subscript a (.Slice none none (some (.UnaryOp .USub (.Constant (.int 1) k p1) p2)) p3) pos) (tM C (mTurnT ma)) :=
  (pe_turn (pv_frz ha)).imp fun σ H Q ⟨ρ, st, μ, F, h1, h2, h3⟩ => ⟨ρ, st, μ, F, h1, h2, Post.bindV gE_lat h3 fun x s v μ1 F1 H1 x1 r1 k1 h4 => by
    cases x with
    | c _ => exact False.elim h4
    | s _ => exact False.elim h4
    | o _ => exact False.elim h4
    | d x =>
      cases x with
      | tuple ds =>
        cases (show Dq C.K F1 v (.tuple ds) from k1) with
        | tup q1 q2 => exact ⟨_, _, rfl, SqT.rd r1.sub q1, fun p hp => fin_t r1 h4 hp q2.rev⟩
      | _ => exact False.elim h4⟩
theorem turn_or (ρ : En) (st : Sto) : mTurnT ma ρ st = mTurn ma ρ st ∨ mTurnL ma ρ st = mTurn ma ρ st := by
  unfold mTurnT mTurnL mTurn
  cases mV ma ρ st with
  | ok x s =>
    cases x with
    | d x => cases x <;> first | exact .inl rfl | exact .inr rfl
    | _ => exact .inl rfl
  | er e s => exact .inl rfl
  | no => exact .inl rfl
theorem s_turn {k : Nat} (hK : C.K.K = X.K) (ha : PE X a (tM C ma)) : PE X (.Subscript a (.Slice none none (some (.UnaryOp .USub (.Constant (.int 1) k p1) p2)) p3) pos) (tM C (mTurn ma)) :=
  ⟨fun pins s σ H Q I ⟨ρ, st, μ, F, h1, h2, h3⟩ => by
    rcases turn_or (ma := ma) ρ st with e | e
    · exact (s_turnT ha).run pins s σ H Q I ⟨ρ, st, μ, F, h1, h2, by dsimp only; rw [e]; exact h3⟩
    · exact (s_turnL ha hK).run pins s σ H Q I ⟨ρ, st, μ, F, h1, h2, by dsimp only; rw [e]; exact h3⟩⟩
end
section
variable {E : Er → Sto → Prop} {ρ : En} {st : Sto} {PE : Rv → Sto → Prop} {ma : Ev}
@[simp] theorem W_mNo : WVe E (mNo ρ st) PE = False := rfl
@[simp] theorem W_mTurn : WVe E (mTurn ma ρ st) PE = WVe E (ma ρ st) fun r s => match frz r with
    | .d (.tuple ds) => PE (.d (.tuple ds.reverse)) s
    | .d (.list ds) => PE (.n (.l ds.reverse)) s
    | _ => False := by
  unfold mTurn; rw [WV_bind, W_mV]
  congr 1; funext r s
  cases frz r with
  | d x => cases x <;> rfl
  | c _ => rfl
  | s _ => rfl
  | o _ => rfl
end
end Cp
/-! Df: a sign in a text; comprehensions that map and pick. -/
namespace Cp
open PySem L2
/-! ### comprehensions whose body turns nothing -/
section
variable {E : Er → Sto → Prop} {st : Sto} {ρ : En} {g g1 : Gm} {tt tt1 : En → Sto → Res Bool} {te : Ev} {all : List PyData} {P : List PyData → Sto → Prop}
theorem filter_take_succ {α : Type} {l : List α} {i : Nat} {x : α} (h : l[i]? = some x) (p : α → Bool) : (l.take (i + 1)).filter p = (l.take i).filter p ++ if p x then [x] else [] := by
  rw [List.take_succ, h, List.filter_append]
  simp only [Option.toList_some, List.filter_cons, List.filter_nil]
theorem lc_pick (sel : PyData → Bool) (f : PyData → PyData) {ds : List PyData}
    (hs : ∀ d ∈ ds, WVe noE (g (.d d) ρ st) fun ρ1 s1 => WVe noE (tt ρ1 s1) fun k s2 => k = sel d ∧ (if k = true then WVe noE (te ρ1 s2) fun r s3 => frz r = .d (f d) ∧ s3 = st else s2 = st))
    (hl : ds.length ≤ sizeLine) (h : P ((ds.filter sel).map f) st) : WVe E (lcGo g tt te none all ρ ds st []) P := by
  refine lcGo_by (I := fun i s a => s = st ∧ a = ((ds.take i).filter sel).map f) ds 0 [] ⟨rfl, rfl⟩ (fun _ _ _ _ => trivial) ?_ ?_
  · rintro i d s a hd ⟨rfl, ha⟩
    rw [Nat.zero_add] at ha ⊢
    have hi : i < ds.length := (List.getElem?_eq_some_iff.mp hd).1
    refine WV_mono (hs d (List.mem_of_getElem? hd)) fun ρ1 s1 h1 => WV_mono h1 fun k s2 h2 => ?_
    obtain ⟨rfl, h2⟩ := h2
    rw [filter_take_succ hd]
    cases q : sel d with
    | true =>
      rw [q] at h2
      simp only [if_true] at h2 ⊢
      refine WV_mono h2 fun r s3 h3 => ⟨f d, h3.1, ?_, h3.2, by rw [ha, List.map_append]; rfl⟩
      have h4 : a.length ≤ i := by
        rw [ha, List.length_map]
        exact Nat.le_trans (List.length_filter_le _ _) (by rw [List.length_take]; omega)
      omega
    | false =>
      rw [q] at h2
      simp only [Bool.false_eq_true, if_false] at h2 ⊢
      exact ⟨h2, by rw [ha]; simp⟩
  · rintro s a ⟨rfl, ha⟩
    rw [ha, Nat.zero_add, List.take_length]
    exact h
theorem lc_map (f : PyData → PyData) {ds : List PyData} (hs : ∀ d ∈ ds, WVe noE (g (.d d) ρ st) fun ρ1 s1 => WVe noE (te ρ1 s1) fun r s3 => frz r = .d (f d) ∧ s3 = st) (hl : ds.length ≤ sizeLine) (h : P (ds.map f) st) :
    WVe E (lcGo g ttY te none all ρ ds st []) P := by
  refine lc_pick (fun _ => true) f (fun d hd => WV_mono (hs d hd) fun ρ1 s1 h1 => ?_) hl (by rw [List.filter_eq_self.mpr (fun _ _ => rfl)]; exact h)
  rw [W_ttY]
  exact ⟨rfl, by rw [if_pos rfl]; exact h1⟩
end
end Cp
/-! Ps: policies, their parts, paths, forms. -/
namespace Cp
open PySem L2
noncomputable def sbS_with_inner : Sv := (sRet (mBin fAdd (mSl (mN 0) oNone (oSome (mBin (fI (fun _ _ => true) fun i j => i - j) (mCal (gLen) (aCons (mV (mN 0)) aNil)) (mCal (gLen) (aCons (mV (mN 1)) aNil))))) (mCal (g1 fTuple) (aCons (mV (mN 1)) aNil))))
noncomputable def semS_with_inner : Fs := bodyF 2 2 sbS_with_inner
noncomputable def sbS_without_numbers (sem : Fs) : Sv := (sSeq (sAsg (gNm 1) (mV (mLc (iOf (mCall semP_inner (aCons (mV (mN 0)) aNil))) (gNm 3) ttY (mCall sem (aCons (mV (mN 3)) aNil)) [3]))) (sSeq (sAsg (gNm 2) (mV (mCall semS_with_inner (aCons (mV (mN 0)) (aCons (mV (mN 1)) aNil))))) (sRet (eIf (mCmp (gIn false) (mBin fIx (mN 2) (mK (.int 0))) (mK (.tuple [.str "wait", .str "retry", .str "fallback", .str "timeout", .str "race", .str "hedge"]))) (mBin fAdd (mTup (aCons (mV (mBin fIx (mN 2) (mK (.int 0)))) (aCons (mV (mK .none)) aNil))) (mSl (mN 2) (oSome (mK (.int 2))) oNone)) (mN 2)))))
noncomputable def semS_without_numbers : Nat → Fs
  | 0 => fun _ _ => .no
  | n + 1 => bodyF 4 1 (sbS_without_numbers (semS_without_numbers n))
noncomputable def sbS_same_form : Sv := (sRet (bV (mCmp gEq (mCall (semS_without_numbers 25) (aCons (mV (mN 0)) aNil)) (mCall (semS_without_numbers 25) (aCons (mV (mN 1)) aNil)))))
noncomputable def semS_same_form : Fs := bodyF 2 2 sbS_same_form
section
variable {st : Sto} {P : Rv → Sto → Prop} {E : Er → Sto → Prop}
def SIG : Str := Str.ofString "abcdefghijklmnopqrstuvwxyz0123456789"
structure IsLab (x : Str) : Prop where
  lo : 1 ≤ x.length
  hi : x.length ≤ 8
  sg : ∀ c ∈ x.cps.toList, c ∈ SIG.cps.toList
@[simp] theorem kb_str_str : kitB "str" "str" = some true := by decide +kernel
@[simp] theorem kb_tuple_tuple : kitB "tuple" "tuple" = some true := by decide +kernel
@[simp] theorem kb_int_int : kitB "int" "int" = some true := by decide +kernel
@[simp] theorem kb_int_bool : kitB "int" "bool" = some false := by decide +kernel
@[simp] theorem kb_bool_bool : kitB "bool" "bool" = some true := by decide +kernel
@[simp] theorem kb_bool_int : kitB "bool" "int" = some true := by decide +kernel
@[simp] theorem kb_str_tuple : kitB "str" "tuple" = some false := by decide +kernel
@[simp] theorem kb_str_int : kitB "str" "int" = some false := by decide +kernel
@[simp] theorem kb_tuple_str : kitB "tuple" "str" = some false := by decide +kernel
@[simp] theorem kb_tuple_int : kitB "tuple" "int" = some false := by decide +kernel
@[simp] theorem kb_NoneType_int : kitB "NoneType" "int" = some false := by decide +kernel
@[simp] theorem kb_NoneType_tuple : kitB "NoneType" "tuple" = some false := by decide +kernel
@[simp] theorem kb_NoneType_str : kitB "NoneType" "str" = some false := by decide +kernel
@[simp] theorem kb_list_tuple : kitB "list" "tuple" = some false := by decide +kernel
@[simp] theorem kb_int_tuple : kitB "int" "tuple" = some false := by decide +kernel
@[simp] theorem kb_int_str : kitB "int" "str" = some false := by decide +kernel
@[simp] theorem fLen_s (x : Str) : fLen (.str x) = if x.length ≤ sizeLine then some (.d (.int x.length)) else none := rfl
@[simp] theorem srcOf_s (x : Str) : srcOf st (.d (.str x)) = some (signs x, none) := rfl
@[simp] theorem tyD_s (x : Str) : tyD (.str x) = "str" := rfl
@[simp] theorem tyD_t (x : List PyData) : tyD (.tuple x) = "tuple" := rfl
@[simp] theorem tyD_i (x : Int) : tyD (.int x) = "int" := rfl
@[simp] theorem tyD_b (x : Bool) : tyD (.bool x) = "bool" := rfl
@[simp] theorem tyD_n : tyD .none = "NoneType" := rfl
@[simp] theorem truD_bS (b : Bool) : truD (.bool b) = some b := rfl
def SpOk : Span → Prop
  | none => True
  | some p => 0 ≤ p.1 ∧ p.1 ≤ p.2 ∧ p.2 ≤ 1000000000
/-- what a policy's node keeps -/
def NuOk : Option Int → Prop
  | none => True
  | some n => 0 ≤ n ∧ n ≤ 1000000000
def Pol.Node : Pol → Prop
  | .call l g b h => IsLab l ∧ SpOk g ∧ SpOk b ∧ (h = true ∨ g ≠ none ∨ b ≠ none)
  | .wait n => 0 ≤ n ∧ n ≤ 1000000000
  | .two _ _ _ => True
  | .num _ n _ _ => NuOk n
  | .retry ps _ => ps.length ≤ 5 ∧ ∀ x ∈ ps, 0 ≤ x ∧ x ≤ 1000000000
  | .tmo n _ => NuOk n
def Pol.All (Q : Pol → Prop) : Pol → Prop
  | .call l g b h => Q (.call l g b h)
  | .wait n => Q (.wait n)
  | .two k a b => Q (.two k a b) ∧ a.All Q ∧ b.All Q
  | .num k n a b => Q (.num k n a b) ∧ a.All Q ∧ b.All Q
  | .retry ps a => Q (.retry ps a) ∧ a.All Q
  | .tmo n a => Q (.tmo n a) ∧ a.All Q
theorem Pol.All.inn {Q : Pol → Prop} {p q : Pol} (h : p.All Q) (hq : q ∈ p.inn) : q.All Q := by
  cases p with
  | call _ _ _ _ => cases hq
  | wait _ => cases hq
  | two k a b => simp [Pol.inn] at hq; rcases hq with rfl | rfl; exact h.2.1; exact h.2.2
  | num k n a b => simp [Pol.inn] at hq; rcases hq with rfl | rfl; exact h.2.1; exact h.2.2
  | retry ps a => simp [Pol.inn] at hq; subst hq; exact h.2
  | tmo n a => simp [Pol.inn] at hq; subst hq; exact h.2
/-- a policy's texts and numbers can be shown and compared -/
theorem Pol.okS : ∀ {p : Pol}, p.All Pol.Node → Cp.okS p.pd
  | .call l g b h, hn => by
    obtain ⟨h1, h2, h3, h4⟩ := hn
    have sp : ∀ g : Span, SpOk g → Cp.okS (spD g) := fun g hg => by
      cases g with
      | none => trivial
      | some p => exact ⟨log_small (k := 40) (by have := hg.1; have := hg.2; omega) (by decide), log_small (k := 40) (by have := hg.1; have := hg.2; omega) (by decide), trivial⟩
    refine ⟨sgn_ofS _, ?_, sp g h2, sp b h3, trivial, trivial⟩
    intro c hc
    have hz := h1.sg c hc
    exact sgn_ofS _ c hz
  | .wait n, hn => ⟨sgn_ofS _, log_small (k := 40) (by have := hn.1; have := hn.2; omega) (by decide), trivial⟩
  | .two k a b, hn => ⟨sgn_ofS _, Pol.okS hn.2.1, Pol.okS hn.2.2, trivial⟩
  | .num k n a b, hn => ⟨sgn_ofS _, (by
    cases n with
    | none => trivial
    | some n => exact log_small (k := 40) (by have := hn.1.1; have := hn.1.2; omega) (by decide)), Pol.okS hn.2.1, Pol.okS hn.2.2, trivial⟩
  | .retry ps a, hn => ⟨sgn_ofS _, (okSs_of fun d hd => by
      obtain ⟨x, hx, rfl⟩ := List.mem_map.mp hd
      exact log_small (k := 40) (by have := hn.1.2 x hx; omega) (by decide)), Pol.okS hn.2, trivial⟩
  | .tmo n a, hn => ⟨sgn_ofS _, (by
    cases n with
    | none => trivial
    | some n => exact log_small (k := 40) (by have := hn.1.1; have := hn.1.2; omega) (by decide)), Pol.okS hn.2, trivial⟩
theorem Pol.pd_depth : ∀ p : Pol, p.pd.depth ≤ p.depth + 1
  | .call l g b h => by
    have sp : ∀ g : Span, (spD g).depth ≤ 1 := fun g => by cases g <;> first | exact Nat.zero_le _ | exact Nat.le_refl _
    show PyData.depthAll [.str _, .str l, spD g, spD b, .bool h] + 1 ≤ 2
    have := sp g
    have := sp b
    simp [PyData.depthAll, PyData.depth]; omega
  | .wait n => by show PyData.depthAll [.str _, .int n] + 1 ≤ 2; simp [PyData.depthAll, PyData.depth]
  | .two k a b => by
    show PyData.depthAll [.str _, a.pd, b.pd] + 1 ≤ _
    have := a.pd_depth
    have := b.pd_depth
    simp [PyData.depthAll, PyData.depth, Pol.depth]; omega
  | .num k n a b => by
    show PyData.depthAll [.str _, nuD n, a.pd, b.pd] + 1 ≤ _
    have := a.pd_depth
    have := b.pd_depth
    have : (nuD n).depth = 0 := by cases n <;> rfl
    simp [PyData.depthAll, PyData.depth, Pol.depth]; omega
  | .retry ps a => by
    show PyData.depthAll [.str _, .tuple (ps.map PyData.int), a.pd] + 1 ≤ _
    have := a.pd_depth
    have h0 : PyData.depthAll (ps.map PyData.int) ≤ 0 := depthAll_le fun d hd => by
      obtain ⟨x, _, rfl⟩ := List.mem_map.mp hd; exact Nat.le_refl _
    have h1 : a.depth ≥ 1 := by cases a <;> simp [Pol.depth] <;> omega
    have : (PyData.tuple (ps.map PyData.int)).depth = PyData.depthAll (ps.map PyData.int) + 1 := rfl
    simp [PyData.depthAll, PyData.depth, Pol.depth]; omega
  | .tmo n a => by
    show PyData.depthAll [.str _, nuD n, a.pd] + 1 ≤ _
    have := a.pd_depth
    have : (nuD n).depth = 0 := by cases n <;> rfl
    simp [PyData.depthAll, PyData.depth, Pol.depth]; omega
/-! ### paths -/
@[simp] theorem tq1 (s : Sto) (x : Cl) (t : Sto) : (s ++ (x :: t)).take (s.length + 1) = s ++ [x] := by
  rw [List.take_append, List.take_of_length_le (by omega), Nat.add_sub_cancel_left]; rfl
end
end Cp
/-! Ctp: tuple(a list) as a tuple known whole (it has no own dict). -/
namespace Cp
open PySem L2
end Cp
/-! Cdp: dict(pairs) whose keys are tuples: of a list, of a tuple known whole. -/
namespace Cp
open PySem L2
end Cp
namespace Cp
open PySem L2
end Cp
/-! Cmx: min, max of one list of ints; max of two data. -/
namespace Cp
open PySem L2
section
open PySem.W PyProof.Rows
variable {prog : Program} {w : World} {A : Around} {E : Value → Shared → Prop} {s : Shared}
theorem max2_raw {a b : Value} {x y : PyData} {as bs : List Addr} {Q : Value → Shared → Prop} (hh : A.handled = none) (ra : Reads s.heap a x as) (rb : Reads s.heap b y bs) (ha : AlikeAll [x, y]) (hu : A.units + 1 + PyData.depthAll [x, y] < cLine)
    (h : ∀ h' tk, (∀ c o, s.heap.get? c = some o → h'.get? c = some o) → Q (if dataLt x y then b else a) { s with heap := h', toks := tk }) :
    wpAny (model prog w) A (call (.builtin "max") [a, b]) Q E s := by
  have hname : (toString "max" ++ toString ".loop" : String) = "max.loop" := by decide
  refine call_function_tree F.kind_max F.plain_max F.entry_max (F.args_max2 _ _) ?_
  show wpAny _ A.in1 (Builtin.Builtins.bindParams "max" ["key", "default"] 0 ⟨[], []⟩ >>= _) _ _ s
  refine wpAny_bind (wpAny_of_eq (show Builtin.Builtins.bindParams "max" ["key", "default"] 0 ⟨[], []⟩ = pure [none, none] from rfl) ?_)
  show wpAny _ A.in1 (newTuple [a, b] >>= _) _ _ s
  refine wpAny_bind (wpAny_newObj_type ?_)
  have hT : (s.heap.push { cls := .type "tuple", data := .seq #[a, b] }).IsTuple s.heap.objs.size #[a, b] := ⟨_, Heap.get?_push_size _ rfl, rfl, 0, rfl⟩
  have kp : ∀ c o, s.heap.get? c = some o → (s.heap.push { cls := .type "tuple", data := .seq #[a, b] }).get? c = some o := fun c o e => Heap.get?_push_of_some _ e
  have hr : ReadsAll (s.heap.push { cls := .type "tuple", data := .seq #[a, b] }) (#[a, b] : Array Value).toList [x, y] (as ++ (bs ++ [])) := .cons (Reads.keeps kp ra) (.cons (Reads.keeps kp rb) .nil)
  refine wpAny_bind (iter_tupleW (A := A.in1) (s := { s with heap := s.heap.push { cls := .type "tuple", data := .seq #[a, b] } }) hh hT fun s₂ e W st hfp hw hk => ?_)
  refine wpAny_bind (wpAny_newObj_type ?_)
  have hSf : s₂.heap.objs.size ∉ _ := fun hm => Nat.lt_irrefl _ (hfp _ hm)
  rw [hname]
  refine wpAny_pure ⟨plainId_quiet F.plain_max_loop _, codeAny_max_loop_firstH W _ hw _ (cmpIn_gt (s := { s with heap := s.heap.push { cls := .type "tuple", data := .seq #[a, b] } }) (A := A.in1) hr ha hu) s₂.heap.objs.size hSf (fresh_in hk) _ (Nat.zero_lt_succ 1) (fun b o e => Heap.get?_push_of_some _ (hk b o e)) (W.frame 0 s₂ _ s₂.toks st (Nat.le_refl _) fun b _ o e => Heap.get?_push_of_some _ e) (Heap.get?_push_size _ rfl) fun v s' hP hm => ?_⟩
  have hm2 := Moved.drop_new (tk := s₂.toks) hm (Nat.le_refl _)
  obtain ⟨h', tk, rfl, hk'⟩ := moved_old e rfl hm2
  have hv : v = if dataLt x y then b else a := by
    have hP' : (#[a, b] : Array Value)[argBest (fun i j => dataLt ([x, y].getD j .none) ([x, y].getD i .none)) 1]? = some v := hP
    cases hb : dataLt x y with
    | true =>
      have e1 : argBest (fun i j => dataLt ([x, y].getD j .none) ([x, y].getD i .none)) 1 = 1 := by simp [argBest, hb]
      rw [e1] at hP'
      simpa using hP'.symm
    | false =>
      have e1 : argBest (fun i j => dataLt ([x, y].getD j .none) ([x, y].getD i .none)) 1 = 0 := by simp [argBest, hb]
      rw [e1] at hP'
      simpa using hP'.symm
  rw [hv]
  exact h h' tk fun c o ec => hk' c o (kp c o ec)
def rMax2D : List V → Hp → VK → Prop := fun vs H Q => ∃ (K : Kw) (F : Hp) (v u : V) (x y : PyData), vs = [v, u] ∧ Same F H ∧ Dq K F v x ∧ Dq K F u y ∧ AlikeAll [x, y] ∧ PyData.depthAll [x, y] ≤ 60 ∧ Q (if dataLt x y then u else v) H
theorem cr_max2D {X : Cx} (hc : X.calm = true) (hu : X.A.units + 64 < cLine) : CallR X (.builtin "max") rMax2D := by
  intro pins s σ H vs us Q I r h
  obtain ⟨K, F, v, u, x, y, rfl, sm, dx, dy, al, dp, q⟩ := h
  obtain ⟨a, b, rfl, r1, r2⟩ := vals2 r
  obtain ⟨as, ra⟩ := (dx.same sm).reads I r1 (alike_noDict x (al.1 x (by simp) x (by simp)))
  obtain ⟨bs, rb⟩ := (dy.same sm).reads I r2 (alike_noDict y (al.1 y (by simp) y (by simp)))
  refine max2_raw (I.ok.hd hc) ra rb al (by omega) fun h' tk k => ⟨_, H, I.kept k, ?_, q⟩
  cases dataLt x y
  · exact r1
  · exact r2
def noN : PyData → Bool
  | .none => false
  | _ => true
def okMx (x y : PyData) : Bool := alike x x && alike x y && alike y x && alike y y && noN x && noN y && decide (PyData.depthAll [x, y] ≤ 60)
theorem okMx_of {x y : PyData} (h : okMx x y = true) : AlikeAll [x, y] ∧ PyData.depthAll [x, y] ≤ 60 := by
  unfold okMx at h
  simp only [Bool.and_eq_true, decide_eq_true_eq] at h
  obtain ⟨⟨⟨⟨⟨⟨h1, h2⟩, h3⟩, h4⟩, h5⟩, h6⟩, h7⟩ := h
  refine ⟨⟨fun a ha b hb => ?_, fun a ha e => ?_⟩, h7⟩
  · simp at ha hb
    rcases ha with rfl | rfl <;> rcases hb with rfl | rfl <;> assumption
  · subst e
    simp at ha
    rcases ha with e | e
    · subst e; simp [noN] at h5
    · subst e; simp [noN] at h6
def gMax2D : Sto → List Vl → Option Rv
  | _, [.d x, .d y] => if okMx x y then some (.d (if dataLt x y then y else x)) else none
  | _, _ => none
variable {X : Cx} {C : Cn} {e a b : Expr} {mas : En → Sto → Res (List Vl)} {p pos : Pos} {k : Nat} {st : Sto}
theorem gMax2D_ok : CallOk C rMax2D gMax2D := by
  intro xs res vs μ F H st Q s k e p
  unfold gMax2D at e
  split at e
  · rename_i x y
    obtain ⟨v, u, rfl, hv, hu⟩ := k.two
    split at e
    · rename_i ho
      cases e
      have hv : Dq C.K F v x := hv
      have hu : Dq C.K F u y := hu
      obtain ⟨h1, h2⟩ := okMx_of ho
      refine ⟨C.K, F, v, u, x, y, rfl, s.sub, hv, hu, h1, h2, fin_d s p ?_⟩
      cases dataLt x y
      · exact hv
      · exact hu
    · cases e
  · cases e
theorem k_max2D (B : Bd k X C) (hg : Gl X "max") (hm : X.mg "max" = none) (ha : PA X [a, b] (tAs C mas)) (he : starEach [a, b] X.env = (false, eval a X.env) :: starEach [b] X.env := by rfl) (hpl : NA X [b] pos := by rfl) : PE X (.Call (.Name "max" p) [a, b] [] pos) (tM C (mCal gMax2D mas)) :=
  s_callB (cr_max2D B.cm B.rm.hu) gMax2D_ok hg hm (by decide +kernel) ha (by decide) (by decide) he hpl
@[simp] theorem gMax2D_d (x y : PyData) : gMax2D st [.d x, .d y] = if okMx x y then some (.d (if dataLt x y then y else x)) else none := rfl
def minI (n : Int) (ns : List Int) : Int := ns.foldl min n
theorem minI_le : ∀ (ns : List Int) (n : Int), minI n ns ≤ n ∧ ∀ y ∈ ns, minI n ns ≤ y
  | [], n => ⟨Int.le_refl _, fun _ h => nomatch h⟩
  | a :: r, n => by
    obtain ⟨h1, h2⟩ := minI_le r (min n a)
    refine ⟨Int.le_trans h1 (Int.min_le_left _ _), fun y hy => ?_⟩
    rcases List.mem_cons.mp hy with rfl | hy
    · exact Int.le_trans h1 (Int.min_le_right _ _)
    · exact h2 y hy
theorem minI_mem : ∀ (ns : List Int) (n : Int), minI n ns ∈ n :: ns
  | [], n => by simp [minI]
  | a :: r, n => by
    have h := minI_mem r (min n a)
    show minI (min n a) r ∈ _
    rcases List.mem_cons.mp h with e | h
    · rw [e]; rcases Int.le_total n a with h | h
      · rw [Int.min_eq_left h]; simp
      · rw [Int.min_eq_right h]; simp
    · simp [h]
def fMin1 : PyData → Option Rv
  | .list xs => match intsD xs with
    | some (n :: r) => some (.d (.int (minI n r)))
    | _ => none
  | _ => none
theorem fMin1_ok {K : PySem.W.Frag} : CallOk C (rMin K) (g1 fMin1) := g1_ok fun d res v μ F H st Q s w e p => by
  cases d with
  | list ys =>
    have e : (match intsD ys with
      | some (n :: r) => some (Rv.d (.int (minI n r)))
      | _ => none) = some res := e
    split at e
    · rename_i n r hn
      cases e
      obtain ⟨q, zs, rfl, q1, q2⟩ := w
      refine ⟨q, n :: r, rfl, SqL.of (by rw [← intsD_ok q2 hn]; exact q1), Nat.zero_lt_succ _, fun m h1 h2 => ?_⟩
      have : m = minI n r := Int.le_antisymm (h2 _ (minI_mem r n)) (by
        rcases List.mem_cons.mp h1 with rfl | h1
        · exact (minI_le r m).1
        · exact (minI_le r n).2 m h1)
      rw [this]
      exact fin_d s p (.int _)
    · cases e
  | _ => cases e
theorem k_min1 (B : Bd k X C) (hg : Gl X "min") (hm : X.mg "min" = none) (ha : PA X [a] (tAs C mas)) (he : starEach [a] X.env = (false, eval a X.env) :: starEach [] X.env := by rfl) (hpl : NA X [] pos := by rfl) : PE X (.Call (.Name "min" p) [a] [] pos) (tM C (mCal (g1 fMin1) mas)) :=
  s_callB (cr_min B.cm) fMin1_ok hg hm (by decide +kernel) ha (by decide) (by decide) he hpl
end
end Cp
/-! Clt: a < b of two alike data. -/
namespace Cp
open PySem L2
section
open PySem.W PyProof.Rows
/-- t < u, tuples of alike data -/
def gLtT : PyData → PyData → Option Bool
  | .tuple x, .tuple y => if okMx (.tuple x) (.tuple y) = true then some (dataLt (.tuple x) (.tuple y)) else none
  | _, _ => none
@[simp] theorem gLtT_t (x y : List PyData) : gLtT (.tuple x) (.tuple y) = if okMx (.tuple x) (.tuple y) = true then some (dataLt (.tuple x) (.tuple y)) else none := rfl
variable {X : Cx} {C : Cn} {a b : Expr} {ma mb : Ev} {pos : Pos} {k : Nat}
end
end Cp
/-! Cup: x.upper(); a tuple of anything == (), != (). -/
namespace Cp
open PySem L2
section
variable {X : Cx} {C : Cn} {o a b : Expr} {mo ma mb : Ev} {p cpos pos apos : Pos} {k : Nat} {E : Er → Sto → Prop} {ρ : En} {st : Sto} {PE' : Rv → Sto → Prop}
def mUpper (mo : Ev) : Ev := fun ρ st => (mV mo ρ st).bind fun x s => match x with
  | .d (.str y) => if y.length ≤ 5592405 then .ok (.d (.str (Txt.upper y))) s else .no
  | _ => .no
@[simp] theorem W_mUpper : WVe E (mUpper mo ρ st) PE' = WVe E (mo ρ st) fun r s => match frz r with
    | .d (.str y) => y.length ≤ 5592405 ∧ PE' (.d (.str (Txt.upper y))) s
    | _ => False := by
  unfold mUpper; rw [WV_bind, W_mV]
  congr 1; funext r s
  generalize frz r = v
  cases v with
  | d x =>
    cases x with
    | str y =>
      dsimp only
      by_cases h : y.length ≤ 5592405
      · rw [if_pos h]; simp [h, WVe]
      · rw [if_neg h]; simp [h, WVe]
    | _ => rfl
  | _ => rfl
/-! ### xs.count(b) of truth values -/
def mCount (mo ma : Ev) : Ev := fun ρ st => (mV mo ρ st).bind fun x s1 => match view s1 x with
  | some (.list _) => (mV ma ρ s1).bind fun y s2 => match view s2 x, y with
    | some (.list ds), .d (.bool c) => (match boolsD ds with
      | some bs => .ok (.d (.int (bs.count c : Nat))) s2
      | none => .no)
    | _, _ => .no
  | _ => .no
@[simp] theorem W_mCount : WVe E (mCount mo ma ρ st) PE' = WVe E (mo ρ st) fun r s1 => match view s1 (frz r) with
    | some (.list _) => WVe E (ma ρ s1) fun r2 s2 => (match view s2 (frz r), frz r2 with
      | some (.list ds), .d (.bool c) => (match boolsD ds with
        | some bs => PE' (.d (.int (bs.count c : Nat))) s2
        | none => False)
      | _, _ => False)
    | _ => False := by
  unfold mCount; rw [WV_bind, W_mV]
  congr 1; funext r s
  cases view s (frz r) with
  | none => rfl
  | some d =>
    cases d with
    | list zs =>
      dsimp only
      rw [WV_bind, W_mV]
      congr 1; funext r2 s2
      generalize frz r2 = z
      cases view s2 (frz r) with
      | none => rfl
      | some dy =>
        cases dy with
        | list ds =>
          cases z with
          | d dd =>
            cases dd with
            | bool c => dsimp only; cases boolsD ds <;> rfl
            | _ => rfl
          | _ => rfl
        | _ => rfl
    | _ => rfl
end
end Cp
/-! Cz: names written from a list's items. -/
namespace Cp
open PySem PySem.Spec PyProof.Rows L2
section
variable {X : Cx} {C : Cn} {es : List Expr} {pos : Pos}
/-- (a, b, ..) = a list of that length -/
def gTl (n : Nat) (r : Gms) : Gm := fun x ρ st => match x with
  | .d (.list ds) => if ds.length = n then r ds ρ st else .no
  | _ => .no
@[simp] theorem W_gTl {E : Er → Sto → Prop} {ρ : En} {st : Sto} {PR : En → Sto → Prop} (n : Nat) (r : Gms) (ds : List PyData) : WVe E (gTl n r (.d (.list ds)) ρ st) PR = (ds.length = n ∧ WVe E (r ds ρ st) PR) := by
  unfold gTl
  by_cases h : ds.length = n <;> simp [h]
end
end Cp
/-! Rn: the ending of a policy under a behaviour. -/
namespace Cp
open PySem L2
noncomputable def sbR_later : Sv := (sRet (eIf (mCmp gIsN (mN 0) (mK .none)) (mK .none) (mTup (aCons (mV (mBin fAdd (mBin fIx (mN 0) (mK (.int 0))) (mN 1))) (aCons (mV (mBin fIx (mN 0) (mK (.int 1)))) aNil)))))
noncomputable def semR_later : Fs := bodyF 2 2 sbR_later
noncomputable def sbR_is_ok : Sv := (sRet (eAnd (bV (mCmp gNotN (mN 0) (mK .none))) (bV (mCmp gEq (mBin fIx (mN 0) (mK (.int 1))) (mK (.str "ok"))))))
noncomputable def semR_is_ok : Fs := bodyF 1 1 sbR_is_ok
noncomputable def sbR_is_failure : Sv := (sRet (eAnd (bV (mCmp gNotN (mN 0) (mK .none))) (bV (mCmp gEq (mBin fIx (mN 0) (mK (.int 1))) (mK (.str "fail"))))))
noncomputable def semR_is_failure : Fs := bodyF 1 1 sbR_is_failure
noncomputable def sbR_timed_out : Sv := (sSeq (sIf (bOr (mCmp gIsN (mN 0) (mK .none)) (bAnd (mCmp gNotN (mN 1) (mK .none)) (mCmp (gI fun i j => decide (i ≤ j)) (mBin fIx (mN 1) (mK (.int 0))) (mN 0)))) (sRet (mN 1)) sNil) (sRet (mTup (aCons (mV (mN 0)) (aCons (mV (mK (.str "fail"))) aNil)))))
noncomputable def semR_timed_out : Fs := bodyF 2 2 sbR_timed_out
noncomputable def sbR_raced : Sv := (sSeq (sIf (bAnd (mCmp gNotN (mN 1) (mK .none)) (mCmp (gI fun i j => decide (i ≤ j)) (mBin fIx (mN 1) (mK (.int 0))) (mN 0))) (sRet (mN 1)) sNil) (sSeq (sAsg (gNm 2) (mV (mCall semR_later (aCons (mV (mN 2)) (aCons (mV (mN 0)) aNil))))) (sSeq (sIf (bOr (mCmp gIsN (mN 2) (mK .none)) (bAnd (mCmp gNotN (mN 1) (mK .none)) (mCmp (gI fun i j => decide (i ≤ j)) (mBin fIx (mN 1) (mK (.int 0))) (mBin fIx (mN 2) (mK (.int 0)))))) (sRet (mN 1)) sNil) (sRet (mN 2)))))
noncomputable def semR_raced : Fs := bodyF 3 3 sbR_raced
noncomputable def sbR_hedged : Sv := (sSeq (sIf (bAnd (mCmp gNotN (mN 1) (mK .none)) (mCmp (gI fun i j => decide (i ≤ j)) (mBin fIx (mN 1) (mK (.int 0))) (mN 0))) (sRet (eIf (mTru (mCall semR_is_failure (aCons (mV (mN 1)) aNil))) (mCall semR_later (aCons (mV (mN 2)) (aCons (mV (mBin fIx (mN 1) (mK (.int 0)))) aNil))) (mN 1))) sNil) (sSeq (sAsg (gNm 2) (mV (mCall semR_later (aCons (mV (mN 2)) (aCons (mV (mN 0)) aNil))))) (sSeq (sAsg (gNm 3) (mV (mLc (iOf (mTup (aCons (mV (mN 1)) (aCons (mV (mN 2)) aNil)))) (gNm 4) (mTru (mCall semR_is_ok (aCons (mV (mN 4)) aNil))) (mBin fIx (mN 4) (mK (.int 0))) [4]))) (sSeq (sIf (mCmp gNe (mN 3) (mLst aNil)) (sRet (mTup (aCons (mV (mCal (g1 fMin1) (aCons (mV (mN 3)) aNil))) (aCons (mV (mK (.str "ok"))) aNil)))) sNil) (sRet (eIf (bOr (mCmp gIsN (mN 1) (mK .none)) (mCmp gIsN (mN 2) (mK .none))) (mK .none) (mCal gMax2D (aCons (mV (mN 1)) (aCons (mV (mN 2)) aNil)))))))))
noncomputable def semR_hedged : Fs := bodyF 5 3 sbR_hedged
noncomputable def sbR_both_ended : Sv := (sSeq (sAsg (gNm 2) (mV (mLc (iOf (mTup (aCons (mV (mN 0)) (aCons (mV (mN 1)) aNil)))) (gNm 3) (mTru (mCall semR_is_failure (aCons (mV (mN 3)) aNil))) (mBin fIx (mN 3) (mK (.int 0))) [3]))) (sSeq (sIf (mCmp gNe (mN 2) (mLst aNil)) (sRet (mTup (aCons (mV (mCal (g1 fMin1) (aCons (mV (mN 2)) aNil))) (aCons (mV (mK (.str "fail"))) aNil)))) sNil) (sRet (eIf (bOr (mCmp gIsN (mN 0) (mK .none)) (mCmp gIsN (mN 1) (mK .none))) (mK .none) (mCal gMax2D (aCons (mV (mN 0)) (aCons (mV (mN 1)) aNil)))))))
noncomputable def semR_both_ended : Fs := bodyF 4 2 sbR_both_ended
noncomputable def sbR_combined : Sv := (sSeq (sAsg (gNm 3) (mV (mBin fIx (mN 0) (mK (.int 0))))) (sSeq (sIf (mCmp gEq (mN 3) (mK (.str "both"))) (sRet (mCall semR_both_ended (aCons (mV (mN 1)) (aCons (mV (mN 2)) aNil)))) sNil) (sSeq (sIf (mCmp gEq (mN 3) (mK (.str "then"))) (sRet (eIf (mTru (mCall semR_is_ok (aCons (mV (mN 1)) aNil))) (mCall semR_later (aCons (mV (mN 2)) (aCons (mV (mBin fIx (mN 1) (mK (.int 0)))) aNil))) (mN 1))) sNil) (sSeq (sAsg (gNm 4) (mV (mBin fIx (mN 0) (mK (.int 1))))) (sSeq (sIf (mCmp gIsN (mN 4) (mK .none)) (sRet (mN 1)) sNil) (sSeq (sIf (mCmp gEq (mN 3) (mK (.str "fallback"))) (sRet (eIf (mTru (mCall semR_is_failure (aCons (mV (mN 1)) aNil))) (mCall semR_later (aCons (mV (mN 2)) (aCons (mV (mBin fAdd (mBin fIx (mN 1) (mK (.int 0))) (mN 4))) aNil))) (mN 1))) sNil) (sRet (eIf (mCmp gEq (mN 3) (mK (.str "race"))) (mCall semR_raced (aCons (mV (mN 4)) (aCons (mV (mN 1)) (aCons (mV (mN 2)) aNil)))) (mCall semR_hedged (aCons (mV (mN 4)) (aCons (mV (mN 1)) (aCons (mV (mN 2)) aNil))))))))))))
noncomputable def semR_combined : Fs := bodyF 5 3 sbR_combined
noncomputable def sbR_llater : Sv := (sRet (eIf (mCmp gIsN (mN 0) (mK .none)) (mK .none) (mTup (aCons (mV (mBin fAdd (mBin fIx (mN 0) (mK (.int 0))) (mN 1))) (aCons (mV (mBin fIx (mN 0) (mK (.int 1)))) aNil)))))
noncomputable def semR_llater : Fs := bodyF 2 2 sbR_llater
end Cp
/-! Rn2: endings, the ending of a policy in plain Lean, and the small functions of it. -/
namespace Cp
open PySem L2
/-- an ending: None, or its moment and whether it is a success -/
abbrev Nd := Option (Int × Bool)
def okW (b : Bool) : Str := if b then Str.ofString "ok" else Str.ofString "fail"
def ndD : Nd → PyData
  | none => .none
  | some p => .tuple [.int p.1, .str (okW p.2)]
def lat (e : Nd) (n : Int) : Nd := e.map fun p => (p.1 + n, p.2)
def timeN (n : Int) : Nd → Nd
  | some p => if p.1 ≤ n then some p else some (n, false)
  | none => some (n, false)
def thenN : Nd → Nd → Nd
  | some (x, true), b => lat b x
  | a, _ => a
def fallN (n : Int) : Nd → Nd → Nd
  | some (x, false), b => lat b (x + n)
  | a, _ => a
/-- both parts are counted from the same start: the first of all failures, else the later end -/
def bothN : Nd → Nd → Nd
  | some (x, false), some (y, false) => some (min x y, false)
  | some (x, false), _ => some (x, false)
  | _, some (y, false) => some (y, false)
  | some (x, true), some (y, true) => some (max x y, true)
  | _, _ => none
/-- the first of all successes, else the later end -/
def hedN : Nd → Nd → Nd
  | some (x, true), some (y, true) => some (min x y, true)
  | some (x, true), _ => some (x, true)
  | _, some (y, true) => some (y, true)
  | some (x, false), some (y, false) => some (max x y, false)
  | _, _ => none
/-- the one that ends first -/
def racN : Nd → Nd → Nd
  | some (x, o), some (y, q) => if x ≤ y then some (x, o) else some (y, q)
  | none, b => b
  | a, none => a
def raceN (n : Int) (a b : Nd) : Nd := match a with
  | some (x, o) => if x ≤ n then some (x, o) else racN (some (x, o)) (lat b n)
  | none => lat b n
def hedgeN (n : Int) (a b : Nd) : Nd := match a with
  | some (x, o) => if x ≤ n then (if o then some (x, o) else lat b x) else hedN (some (x, o)) (lat b n)
  | none => hedN none (lat b n)
def numN (k : Num) (n : Option Int) (a b : Nd) : Nd := match n with
  | none => a
  | some n => match k with
    | .fall => fallN n a b
    | .race => raceN n a b
    | .hedge => hedgeN n a b
def twoN : Two → Nd → Nd → Nd
  | .thn => thenN
  | .both => bothN
def tmoN (n : Option Int) (a : Nd) : Nd := match n with
  | none => a
  | some n => timeN n a
/-- the attempts of a retry, from the attempt t on, which starts at s -/
def triedN (f : Nat → Nd) : List Int → Nat → Int → Nd
  | [], t, s => lat (f t) s
  | p :: ps, t, s => match lat (f t) s with
    | some (x, false) => triedN f ps (t + 1) (x + p)
    | e => e
/-- the ending of a policy under answers -/
def Pol.run (ans : Ky → Nd) : Pol → List Int → Nd
  | .call l _ _ _, r => ans (l, r)
  | .wait n, _ => some (n, true)
  | .two k a b, r => twoN k (a.run ans r) (b.run ans r)
  | .num k n a b, r => numN k n (a.run ans r) (b.run ans r)
  | .retry ps a, r => triedN (fun t => a.run ans (r ++ [(t : Int)])) ps 0 0
  | .tmo n a, r => tmoN n (a.run ans r)
@[simp] theorem ndD_none : ndD none = .none := rfl
@[simp] theorem ndD_some (p : Int × Bool) : ndD (some p) = .tuple [.int p.1, .str (okW p.2)] := rfl
@[simp] theorem okW_true : okW true = Str.ofString "ok" := rfl
@[simp] theorem okW_false : okW false = Str.ofString "fail" := rfl
section
variable {st : Sto} {E : Er → Sto → Prop} {P : Rv → Sto → Prop} {i : Nat}
@[simp] theorem gIsN_nn : gIsN .none .none = some true := rfl
@[simp] theorem gIsN_tn (xs : List PyData) : gIsN (.tuple xs) .none = some false := rfl
@[simp] theorem gIsN_in (i : Int) : gIsN (.int i) .none = some false := rfl
@[simp] theorem gNotN_nn : gNotN .none .none = some false := rfl
@[simp] theorem gNotN_tn (xs : List PyData) : gNotN (.tuple xs) .none = some true := rfl
@[simp] theorem gNotN_in (i : Int) : gNotN (.int i) .none = some true := rfl
@[simp] theorem W_later {e : Nd} {n : Int} : WVe E (semR_later [.d (ndD e), .d (.int n)] st) P = P (.d (ndD (lat e n))) st := by
  unfold semR_later sbR_later; rw [W_body]
  cases e with
  | none => simp [lat]
  | some p => simp [szl, lat]
@[simp] theorem W_llater {e : Nd} {n : Int} : WVe E (semR_llater [.d (ndD e), .d (.int n)] st) P = P (.d (ndD (lat e n))) st := by
  unfold semR_llater sbR_llater; rw [W_body]
  cases e with
  | none => simp [lat]
  | some p => simp [szl, lat]
def okN (e : Nd) : Bool := match e with | some p => p.2 | none => false
def faN (e : Nd) : Bool := match e with | some p => !p.2 | none => false
@[simp] theorem W_is_ok {e : Nd} : WVe E (semR_is_ok [.d (ndD e)] st) P = P (.d (.bool (okN e))) st := by
  unfold semR_is_ok sbR_is_ok; rw [W_body]
  cases e with
  | none => simp [okN]
  | some p =>
    obtain ⟨x, b⟩ := p
    cases b <;> simp [okN]
@[simp] theorem W_is_failure {e : Nd} : WVe E (semR_is_failure [.d (ndD e)] st) P = P (.d (.bool (faN e))) st := by
  unfold semR_is_failure sbR_is_failure; rw [W_body]
  cases e with
  | none => simp [faN]
  | some p =>
    obtain ⟨x, b⟩ := p
    cases b <;> simp [faN]
theorem w_timed_out {n : Option Int} {e : Nd} (h : P (.d (ndD (tmoN n e))) st) : WVe E (semR_timed_out [.d (nuD n), .d (ndD e)] st) P := by
  unfold semR_timed_out sbR_timed_out; rw [W_body]
  refine ⟨rfl, ?_⟩
  cases n with
  | none => simp [nuD]; exact h
  | some n =>
    cases e with
    | none => simp [nuD, szl]; exact h
    | some p =>
      obtain ⟨x, b⟩ := p
      by_cases q : x ≤ n
      · simp [nuD, q]
        have e : tmoN (some n) (some (x, b)) = some (x, b) := by simp [tmoN, timeN, q]
        rw [e] at h; exact h
      · simp [nuD, q, szl]
        have e : tmoN (some n) (some (x, b)) = some (n, false) := by simp [tmoN, timeN, q]
        rw [e] at h; exact h
theorem fMin1_one (x : Int) : fMin1 (.list [.int x]) = some (.d (.int x)) := rfl
theorem fMin1_two (x y : Int) : fMin1 (.list [.int x, .int y]) = some (.d (.int (min x y))) := rfl
theorem okMx_ep (x y : Int) (b : Str) : okMx (.tuple [.int x, .str b]) (.tuple [.int y, .str b]) = true := by
  simp [okMx, PySem.W.alike, PySem.W.alikeAll, noN, PyData.depthAll, PyData.depth]
theorem dataLt_ep (x y : Int) (b : Str) : PySem.W.dataLt (.tuple [.int x, .str b]) (.tuple [.int y, .str b]) = decide (x < y) := by
  rw [PySem.W.dataLt_pair (by simp [PySem.W.alike]) (by simp [PySem.W.alike]), PySem.W.dataLt_int]
  simp only [PyData.eqv]
  by_cases h : x = y
  · subst h; simp
  · simp [h]
theorem max_ep (x y : Int) (b : Bool) : (if PySem.W.dataLt (.tuple [.int x, .str (okW b)]) (.tuple [.int y, .str (okW b)]) = true then PyData.tuple [.int y, .str (okW b)] else .tuple [.int x, .str (okW b)]) = ndD (some (max x y, b)) := by
  rw [dataLt_ep]
  by_cases h : x < y
  · rw [if_pos (decide_eq_true h)]; simp [Int.max_eq_right (Int.le_of_lt h)]
  · rw [if_neg (by simpa using h)]; simp [Int.max_eq_left (Int.not_lt.mp h)]
theorem lcGo_z {g : Gm} {tt : En → Sto → Res Bool} {te : Ev} {all : List PyData} {ρ : En} {Q : List PyData → Sto → Prop} {acc : List PyData} : WVe E (lcGo g tt te none all ρ [] st acc) Q = Q acc st := by
  rw [lcGo, if_pos (show Grd none all st from trivial)]; rfl
theorem gIsN_nd (e : Nd) : gIsN (ndD e) .none = some (decide (e = none)) := by cases e <;> rfl
theorem gNe_0 : gNe (.list []) (.list []) = some false := rfl
theorem gNe_1 (x : Int) : gNe (.list [.int x]) (.list []) = some true := rfl
theorem gNe_2 (x y : Int) : gNe (.list [.int x, .int y]) (.list []) = some true := rfl
theorem max_ep1 (x y : Int) : (if PySem.W.dataLt (.tuple [.int x, .str (Str.ofString "ok")]) (.tuple [.int y, .str (Str.ofString "ok")]) = true then PyData.tuple [.int y, .str (Str.ofString "ok")] else .tuple [.int x, .str (Str.ofString "ok")]) = .tuple [.int (max x y), .str (Str.ofString "ok")] := max_ep x y true
theorem max_ep0 (x y : Int) : (if PySem.W.dataLt (.tuple [.int x, .str (Str.ofString "fail")]) (.tuple [.int y, .str (Str.ofString "fail")]) = true then PyData.tuple [.int y, .str (Str.ofString "fail")] else .tuple [.int x, .str (Str.ofString "fail")]) = .tuple [.int (max x y), .str (Str.ofString "fail")] := max_ep x y false
@[simp] theorem W_later_n {n : Int} : WVe E (semR_later [.d .none, .d (.int n)] st) P = P (.d .none) st := W_later (e := none)
@[simp] theorem W_later_t {x n : Int} {o : Bool} : WVe E (semR_later [.d (.tuple [.int x, .str (okW o)]), .d (.int n)] st) P = P (.d (.tuple [.int (x + n), .str (okW o)])) st := W_later (e := some (x, o))
@[simp] theorem W_later_t1 {x n : Int} : WVe E (semR_later [.d (.tuple [.int x, .str (Str.ofString "ok")]), .d (.int n)] st) P = P (.d (.tuple [.int (x + n), .str (Str.ofString "ok")])) st := W_later (e := some (x, true))
@[simp] theorem W_later_t0 {x n : Int} : WVe E (semR_later [.d (.tuple [.int x, .str (Str.ofString "fail")]), .d (.int n)] st) P = P (.d (.tuple [.int (x + n), .str (Str.ofString "fail")])) st := W_later (e := some (x, false))
@[simp] theorem W_llater_n {n : Int} : WVe E (semR_llater [.d .none, .d (.int n)] st) P = P (.d .none) st := W_llater (e := none)
@[simp] theorem W_llater_t {x n : Int} {o : Bool} : WVe E (semR_llater [.d (.tuple [.int x, .str (okW o)]), .d (.int n)] st) P = P (.d (.tuple [.int (x + n), .str (okW o)])) st := W_llater (e := some (x, o))
@[simp] theorem W_llater_t1 {x n : Int} : WVe E (semR_llater [.d (.tuple [.int x, .str (Str.ofString "ok")]), .d (.int n)] st) P = P (.d (.tuple [.int (x + n), .str (Str.ofString "ok")])) st := W_llater (e := some (x, true))
@[simp] theorem W_llater_t0 {x n : Int} : WVe E (semR_llater [.d (.tuple [.int x, .str (Str.ofString "fail")]), .d (.int n)] st) P = P (.d (.tuple [.int (x + n), .str (Str.ofString "fail")])) st := W_llater (e := some (x, false))
theorem w_both_ended {a b : Nd} {n : Nat} (hn : n = st.length) (h : P (.d (ndD (bothN a b))) st) : WVe E (semR_both_ended [.d (ndD a), .d (ndD b)] st) fun r s => back n r s P := by
  subst hn
  unfold semR_both_ended sbR_both_ended; rw [W_body]
  refine ⟨rfl, ?_⟩
  simp [szl, lcGo_c, lcGo_z, wipeE, gIsN_nd]
  rcases a with _ | ⟨x, _ | _⟩ <;> rcases b with _ | ⟨y, _ | _⟩ <;> simp [faN, fMin1_one, fMin1_two, gNe_0, gNe_1, gNe_2, lcGo_z, okMx_ep] <;> first | exact h | exact (congrArg (fun z => P (.d z) st) (max_ep1 x y)).mpr h
theorem gNotN_nd (e : Nd) : gNotN (ndD e) .none = some (!decide (e = none)) := by cases e <;> rfl
theorem w_hedged {k : Int} {a b : Nd} {n : Nat} (hn : n = st.length) (h : P (.d (ndD (hedgeN k a b))) st) : WVe E (semR_hedged [.d (.int k), .d (ndD a), .d (ndD b)] st) fun r s => back n r s P := by
  subst hn
  unfold semR_hedged sbR_hedged; rw [W_body]
  refine ⟨rfl, ?_⟩
  simp [szl, lcGo_c, lcGo_z, wipeE, gIsN_nd, gNotN_nd]
  rcases a with _ | ⟨x, _ | _⟩ <;> rcases b with _ | ⟨y, _ | _⟩ <;> simp [faN, okN, lat, fMin1_one, fMin1_two, gNe_0, gNe_1, gNe_2, lcGo_z, okMx_ep] <;>
    first
    | exact h
    | (simp [hedgeN, hedN, lat] at h; exact h)
    | (simp [hedgeN, hedN, lat] at h; by_cases q : x ≤ k <;> simp [q] at h <;> exact h)
    | (split <;> rename_i q <;> simp [hedgeN, q, hedN, lat] at h <;> first | exact h | (simp [okMx_ep, szl]; exact h) | (simp [faN]; exact h) | exact (congrArg (fun z => P (.d z) st) (max_ep0 _ _)).mpr h)
theorem w_raced {k : Int} {a b : Nd} {n : Nat} (hn : n = st.length) (h : P (.d (ndD (raceN k a b))) st) : WVe E (semR_raced [.d (.int k), .d (ndD a), .d (ndD b)] st) fun r s => back n r s P := by
  subst hn
  unfold semR_raced sbR_raced; rw [W_body]
  refine ⟨rfl, ?_⟩
  simp [szl, gIsN_nd, gNotN_nd]
  rcases a with _ | ⟨x, o⟩ <;> rcases b with _ | ⟨y, q⟩ <;> simp [lat] <;>
    first
    | exact h
    | (simp [raceN, racN, lat] at h; exact h)
    | (split <;> rename_i q1 <;> simp [raceN, q1, racN, lat] at h <;> first | exact h | (split <;> rename_i q2 <;> simp [q2] at h <;> exact h))
end
end Cp
/-! Ps2: parts at paths. -/
namespace Cp
open PySem L2
section
variable {st : Sto} {P : Rv → Sto → Prop} {E : Er → Sto → Prop}
/-! ### parts put in place -/
def Pol.hd : Pol → List PyData
  | .call l g b h => [.str "call", .str l, spD g, spD b, .bool h]
  | .wait n => [.str "wait", .int n]
  | .two k _ _ => [.str k.s]
  | .num k n _ _ => [.str k.s, nuD n]
  | .retry ps _ => [.str "retry", .tuple (ps.map PyData.int)]
  | .tmo n _ => [.str "timeout", nuD n]
theorem pd_hd (p : Pol) : p.pd = .tuple (p.hd ++ p.inn.map Pol.pd) := by cases p <;> rfl
theorem cutT {ds : List PyData} {a : Nat} (h : a ≤ ds.length) : cutD ds none (some (a : Int)) = ds.take a := by
  unfold cutD
  have : HT.sIx ds.length ds.length (some (a : Int)) = a := by
    unfold HT.sIx
    simp
    rw [if_neg (by omega)]; omega
  rw [this]
  show (ds.drop 0).take (a - 0) = _
  simp
theorem w_with_inner {p : Pol} {v : Vl} {xs : List PyData} (hv : view st v = some (.list xs)) (hl : xs.length = p.inn.length) (h : P (.d (.tuple (p.hd ++ xs))) st) : WVe noE (semS_with_inner [.d p.pd, v] st) P := by
  unfold semS_with_inner sbS_with_inner
  rw [W_body]
  have hg : gLen st [v] = some (.d (.int xs.length)) := by
    cases v with
    | d d => cases hv; rfl
    | c i => rw [gLen_c, hv]; rfl
    | s _ => cases hv
    | o x =>
      show g1 fLen st [.o x] = _
      unfold g1
      simp only [hv]; rfl
  have ht : g1 fTuple st [v] = some (.d (.tuple xs)) := by
    cases v with
    | d d => cases hv; rfl
    | c i => rw [g1_c, hv]; rfl
    | s _ => cases hv
    | o x =>
      unfold g1
      simp only [hv]; rfl
  have h2 : p.inn.length ≤ 2 := by cases p <;> simp [Pol.inn]
  have h3 : p.hd.length ≤ 5 := by cases p <;> simp [Pol.hd]
  rw [pd_hd]
  have e1 : ((p.hd.length : Int) + (p.inn.length : Int) - (xs.length : Int)) = ((p.hd.length : Nat) : Int) := by omega
  simp [hg, ht, e1]
  rw [cutT (by simp), List.take_left' rfl]
  simp [szl]
  exact ⟨by omega, h⟩
def Pol.at : Pol → List Nat → Option Pol
  | p, [] => some p
  | p, i :: q => match p.inn[i]? with
    | some r => r.at q
    | none => none
end
end Cp
/-! Ps3: is_policy of policies. -/
namespace Cp
open PySem L2
section
variable {st : Sto} {P : Rv → Sto → Prop} {E : Er → Sto → Prop} {ρ : En} {ma : Ev} {PE : Rv → Sto → Prop}
@[simp] theorem W_mPop : WVe E (mPop ma ρ st) PE = WVe E (ma ρ st) fun r s => (match frz r with
    | .c k => (match s[k]? with
      | some (.l xs) => (match xs[xs.length - 1]? with
        | some d => PE (.d d) (s.set k (.l xs.dropLast))
        | none => False)
      | _ => False)
    | _ => False) := by
  unfold mPop; rw [WV_bind, W_mV]
  congr 1; funext r s
  generalize frz r = v
  cases v with
  | c k =>
    simp only [lstAt_c]
    cases s[k]? with
    | none => rfl
    | some c =>
      cases c with
      | m _ => rfl
      | l xs =>
        simp only
        cases xs[xs.length - 1]? <;> rfl
  | _ => rfl
theorem inn_dp {p q : Pol} (h : q ∈ p.inn) : q.depth + 1 ≤ p.depth := by
  cases p <;> simp [Pol.inn] at h
  · rcases h with rfl | rfl <;> simp [Pol.depth] <;> omega
  · rcases h with rfl | rfl <;> simp [Pol.depth] <;> omega
  · subst h; simp [Pol.depth]; omega
  · subst h; simp [Pol.depth]; omega
theorem dp_pos (p : Pol) : 1 ≤ p.depth := by cases p <;> simp [Pol.depth] <;> omega
@[simp] theorem tq2 (s : Sto) (x y : Cl) (t : Sto) : (s ++ (x :: y :: t)).take (s.length + 2) = s ++ [x, y] := by
  rw [List.take_append, List.take_of_length_le (by omega), Nat.add_sub_cancel_left]; rfl
end
end Cp
/-! Ps4: parts put in place, parts left out. -/
namespace Cp
open PySem L2
section
variable {st : Sto} {P : Rv → Sto → Prop} {E : Er → Sto → Prop}
/-- another policy in the place of a part -/
def Pol.put : Pol → List Nat → Pol → Pol
  | _, [], x => x
  | .two k a b, 0 :: q, x => .two k (a.put q x) b
  | .two k a b, 1 :: q, x => .two k a (b.put q x)
  | .num k n a b, 0 :: q, x => .num k n (a.put q x) b
  | .num k n a b, 1 :: q, x => .num k n a (b.put q x)
  | .retry ps a, 0 :: q, x => .retry ps (a.put q x)
  | .tmo n a, 0 :: q, x => .tmo n (a.put q x)
  | p, _ :: _, _ => p
def Pol.lv : Pol → Bool
  | .num _ n _ _ => n.isSome
  | .tmo n _ => n.isSome
  | .retry ps _ => !ps.isEmpty
  | _ => false
end
end Cp
/-! Ps5: parts left out. -/
namespace Cp
open PySem L2
section
variable {st : Sto} {P : Rv → Sto → Prop} {E : Er → Sto → Prop}
def pl (p : Pol) (q : List Nat) : Bool := match p.at q with
  | some r => r.lv
  | none => false
end
end Cp
/-! Ps6: drawn policies are policies; what paths look like. -/
namespace Cp
open PySem L2
def isLabB (x : Str) : Bool := decide (1 ≤ x.length) && (decide (x.length ≤ 8) && x.cps.toList.all fun c => SIG.cps.toList.contains c)
theorem isLabB_ok {x : Str} (h : isLabB x = true) : IsLab x := by
  unfold isLabB at h
  simp only [Bool.and_eq_true, decide_eq_true_eq, List.all_eq_true] at h
  exact ⟨h.1, h.2.1, fun c hc => by have := h.2.2 c hc; simpa using this⟩
/-! ### paths as texts -/
def dgL (l : List Nat) : List Nat := l.filter fun c => decide (c = 48) || decide (c = 49)
def dg (x : Str) : List Nat := dgL x.cps.toList
end Cp
/-! Ps7: policies and paths shown. -/
namespace Cp
open PySem L2
end Cp
/-! Ps8: labels, numbers, forms. -/
namespace Cp
open PySem L2
/-! ### texts sorted -/
/-! ### parts -/
def Pol.sub (p : Pol) (q : List Nat) : Pol := (p.at q).getD (.wait 0)
section
variable {st : Sto} {P : Rv → Sto → Prop} {E : Er → Sto → Prop}
/-! ### calls -/
def Pol.cls : Pol → List (Str × PyData)
  | .call l g b h => [(l, (Pol.call l g b h).pd)]
  | .wait _ => []
  | .two _ a b => a.cls ++ b.cls
  | .num _ _ a b => a.cls ++ b.cls
  | .retry _ a => a.cls
  | .tmo _ a => a.cls
/-! ### forms -/
def Two.t (k : Two) : PyData := .str (Str.ofString k.s)
def Num.t (k : Num) : PyData := .str (Str.ofString k.s)
/-- a policy with its numbers off -/
def Pol.wn : Pol → PyData
  | .call l g b h => (Pol.call l g b h).pd
  | .wait _ => .tuple [.str (Str.ofString "wait"), .none]
  | .two k a b => .tuple [k.t, a.wn, b.wn]
  | .num k _ a b => .tuple [k.t, .none, a.wn, b.wn]
  | .retry _ a => .tuple [.str (Str.ofString "retry"), .none, a.wn]
  | .tmo _ a => .tuple [.str (Str.ofString "timeout"), .none, a.wn]
def Pol.bare : Pol → PyData
  | .call l g b h => .list [.str (Str.ofString "call"), .str l, spD g, spD b, .bool h]
  | .wait _ => .list [.str (Str.ofString "wait")]
  | .two k a b => .list [k.t, a.bare, b.bare]
  | .num k _ a b => .list [k.t, a.bare, b.bare]
  | .retry _ a => .list [.str (Str.ofString "retry"), a.bare]
  | .tmo _ a => .list [.str (Str.ofString "timeout"), a.bare]
theorem w_wn : ∀ (f : Nat) {p : Pol} {st : Sto} {P : Rv → Sto → Prop}, p.depth ≤ f → P (.d p.wn) st → WVe noE (semS_without_numbers f [.d p.pd] st) P
  | 0, p, _, _, h, _ => by have := dp_pos p; omega
  | f + 1, p, st, P, hf, h => by
    show WVe noE (bodyF 4 1 (sbS_without_numbers (semS_without_numbers f)) _ _) _
    unfold sbS_without_numbers
    rw [W_body]
    refine ⟨rfl, ?_⟩
    have hb : p.inn.length ≤ 2 := by cases p <;> simp [Pol.inn]
    refine seq_cut (fun ρ s => ρ = [some (.d p.pd), some (.d (.list (p.inn.map Pol.wn))), none, none] ∧ s = st) ?_ ?_
    · simp
      refine w_inner ?_
      simp
      refine lcGo_by (I := fun i s a => s = st ∧ a = (p.inn.take i).map Pol.wn) _ 0 [] ⟨rfl, rfl⟩ (fun _ _ _ _ => trivial) ?_ ?_
      · rintro i d s a hd ⟨rfl, rfl⟩
        rw [List.getElem?_map] at hd
        obtain ⟨q, hq, rfl⟩ := Option.map_eq_some_iff.mp hd
        have hqd := inn_dp (List.mem_of_getElem? hq)
        simp [wipeE]
        refine w_wn f (by omega) ?_
        simp
        have hi : i < p.inn.length := (List.getElem?_eq_some_iff.mp hq).1
        refine ⟨by rw [szl]; omega, ?_⟩
        rw [List.take_succ, List.getElem?_map, hq]; rfl
      · rintro s a ⟨rfl, rfl⟩
        rw [List.length_map, Nat.zero_add, List.take_length]
        simp
    rintro ρ s ⟨rfl, rfl⟩
    refine seq_cut (fun ρ s' => ρ = [some (.d p.pd), some (.d (.list (p.inn.map Pol.wn))), some (.d (.tuple (p.hd ++ p.inn.map Pol.wn))), none] ∧ s' = s) ?_ ?_
    · simp
      refine w_with_inner (xs := p.inn.map Pol.wn) rfl (List.length_map _) ?_
      simp
    rintro ρ s' ⟨rfl, rfl⟩
    cases p with
    | call l g b hh => simp [Pol.hd, Pol.inn, gIn, itemsD, flatD, eqF]; exact h
    | wait n =>
      have hc : cutD [PyData.str (Str.ofString "wait"), PyData.int n] (some 2) none = [] := rfl
      simp [Pol.hd, Pol.inn, gIn, itemsD, flatD, eqF, szl, hc]; exact h
    | two k a b => cases k <;> simp [Pol.hd, Pol.inn, Two.s, gIn, itemsD, flatD, eqF] <;> exact h
    | num k n a b => cases k <;> simp [Pol.hd, Pol.inn, Num.s, gIn, itemsD, flatD, eqF, szl, cut4] <;> exact h
    | retry ps a => simp [Pol.hd, Pol.inn, gIn, itemsD, flatD, eqF, szl, cut3]; exact h
    | tmo n a => simp [Pol.hd, Pol.inn, gIn, itemsD, flatD, eqF, szl, cut3]; exact h
theorem wn_okS : ∀ {p : Pol}, p.All Pol.Node → okS p.wn
  | .call l g b h, hn => Pol.okS (p := .call l g b h) hn
  | .wait n, _ => ⟨sgn_ofS _, trivial, trivial⟩
  | .two k a b, hn => ⟨sgn_ofS _, wn_okS hn.2.1, wn_okS hn.2.2, trivial⟩
  | .num k n a b, hn => ⟨sgn_ofS _, trivial, wn_okS hn.2.1, wn_okS hn.2.2, trivial⟩
  | .retry ps a, hn => ⟨sgn_ofS _, trivial, wn_okS hn.2, trivial⟩
  | .tmo n a, hn => ⟨sgn_ofS _, trivial, wn_okS hn.2, trivial⟩
theorem wn_depth : ∀ p : Pol, p.wn.depth ≤ p.depth + 1
  | .call l g b h => (Pol.call l g b h).pd_depth
  | .wait n => by simp [Pol.wn, PyData.depth, PyData.depthAll, Pol.depth]
  | .two k a b => by
    have := wn_depth a
    have := wn_depth b
    simp [Pol.wn, PyData.depth, PyData.depthAll, Pol.depth, Two.t]; omega
  | .num k n a b => by
    have := wn_depth a
    have := wn_depth b
    simp [Pol.wn, PyData.depth, PyData.depthAll, Pol.depth, Num.t]; omega
  | .retry ps a => by
    have := wn_depth a
    simp [Pol.wn, PyData.depth, PyData.depthAll, Pol.depth]; omega
  | .tmo n a => by
    have := wn_depth a
    simp [Pol.wn, PyData.depth, PyData.depthAll, Pol.depth]; omega
/-- of one form -/
def fmB (p q : Pol) : Bool := PyData.eqv p.wn q.wn
theorem w_same {p q : Pol} (hp : p.All Pol.Node) (hq : q.All Pol.Node) (dp : p.depth ≤ 25) (dq : q.depth ≤ 25) (h : P (.d (.bool (fmB p q))) st) : WVe noE (semS_same_form [.d p.pd, .d q.pd] st) P := by
  unfold semS_same_form sbS_same_form
  rw [W_body]
  simp
  refine w_wn 25 dp ?_
  simp
  refine w_wn 25 dq ?_
  have e := gEq_at (wn_okS hp) (wn_okS hq) (by have := wn_depth p; omega) (by have := wn_depth q; omega)
  simp [e]
  exact h
theorem eqvT (a b : PyData) (xs ys : List PyData) : PyData.eqvAll (a :: xs) (b :: ys) = (PyData.eqv a b && PyData.eqvAll xs ys) := by rw [PyData.eqvAll]
theorem eqvTup (xs ys : List PyData) : PyData.eqv (.tuple xs) (.tuple ys) = PyData.eqvAll xs ys := by rw [PyData.eqv]
theorem eqvLst (xs ys : List PyData) : PyData.eqv (.list xs) (.list ys) = PyData.eqvAll xs ys := by rw [PyData.eqv]
end
end Cp
/-! Rn3: run_with of a policy. -/
namespace Cp
open PySem L2
section
variable {st : Sto} {E : Er → Sto → Prop} {P : Rv → Sto → Prop} {i : Nat}
theorem w_comb_two {k : Two} {p q : Pol} {a b : Nd} {n : Nat} (hn : n = st.length) (h : P (.d (ndD (twoN k a b))) st) : WVe E (semR_combined [.d (Pol.two k p q).pd, .d (ndD a), .d (ndD b)] st) fun r s => back n r s P := by
  subst hn
  unfold semR_combined sbR_combined; rw [W_body]
  refine ⟨rfl, ?_⟩
  cases k with
  | both =>
    simp [Pol.pd, Two.s, -ndD_none, -ndD_some]
    refine w_both_ended rfl ?_
    simp
    exact h
  | thn =>
    simp [Pol.pd, Two.s]
    rcases a with _ | ⟨x, _ | _⟩
    · simp [okN]; exact h
    · simp [okN]; exact h
    · simp [okN]; exact h
theorem w_comb_num {k : Num} {m : Option Int} {p q : Pol} {a b : Nd} {n : Nat} (hn : n = st.length) (h : P (.d (ndD (numN k m a b))) st) : WVe E (semR_combined [.d (Pol.num k m p q).pd, .d (ndD a), .d (ndD b)] st) fun r s => back n r s P := by
  subst hn
  unfold semR_combined sbR_combined; rw [W_body]
  refine ⟨rfl, ?_⟩
  cases m with
  | none =>
    cases k <;> simp [Pol.pd, Num.s, nuD] <;> exact h
  | some m =>
    cases k with
    | fall =>
      simp [Pol.pd, Num.s, nuD]
      rcases a with _ | ⟨x, _ | _⟩
      · simp [faN]; exact h
      · simp [faN]; exact h
      · simp [faN]; exact h
    | race =>
      simp [Pol.pd, Num.s, nuD, -ndD_none, -ndD_some]
      refine w_raced rfl ?_
      simp
      exact h
    | hedge =>
      simp [Pol.pd, Num.s, nuD, -ndD_none, -ndD_some]
      refine w_hedged rfl ?_
      simp
      exact h
/-- a value that holds a dict of answers, now and later -/
def HasD (st : Sto) (x : Vl) (kvs : List (PyData × PyData)) : Prop := ∀ t : Sto, view (st ++ t) x = some (.dict kvs)
theorem HasD.d (kvs : List (PyData × PyData)) : HasD st (.d (.dict kvs)) kvs := fun _ => rfl
theorem HasD.c {j : Nat} {kvs : List (PyData × PyData)} (h : st[j]? = some (.m kvs)) (hg : isGone (.m kvs) = false) : HasD st (.c j) kvs := fun t => by
  have : (st ++ t)[j]? = some (.m kvs) := by rw [List.getElem?_append_left (List.getElem?_eq_some_iff.mp h).1]; exact h
  simp [view, this, hg]
end
end Cp
/-! V38a: joint endings as plain lists. -/
namespace Cp.Jt
open PySem L2 Cp
abbrev Np := Nd × Nd
def npD (x : Np) : PyData := .tuple [ndD x.1, ndD x.2]
abbrev Og := List (Np × List Np)
def ogV (v : List Np) : PyData := .tuple (v.map npD)
def ogD (o : Og) : List (PyData × PyData) := o.map fun p => (npD p.1, ogV p.2)
def has (o : Og) (k : Np) : Bool := o.any fun p => decide (p.1 = k)
def put (o : Og) (k : Np) (v : List Np) : Og := if has o k = true then o.map (fun p => if p.1 = k then (p.1, v) else p) else o ++ [(k, v)]
def sd (o : Og) (k : Np) (v : List Np) : Og := if has o k = true then o else o ++ [(k, v)]
theorem keyN_nd (e : Nd) : keyN (ndD e) = some (match e with
    | none => .none
    | some p => .tup [.num p.1, .text (okW p.2)]) := by
  rcases e with _ | ⟨x, o⟩ <;> rfl
theorem okW_inj {a b : Bool} (h : okW a = okW b) : a = b := by
  cases a <;> cases b <;> first | rfl | exact absurd h (by decide +kernel)
theorem keyN_inj {a b : Nd} (h : keyN (ndD a) = keyN (ndD b)) : a = b := by
  rw [keyN_nd, keyN_nd] at h
  rcases a with _ | ⟨x, o⟩ <;> rcases b with _ | ⟨y, q⟩
  · rfl
  · injection h with h; cases h
  · injection h with h; cases h
  · injection h with h
    injection h with h
    injection h with h1 h
    injection h with h2 _
    injection h1 with h1
    injection h2 with h2
    have h1 : x = y := h1
    have h2 : okW o = okW q := h2
    rw [h1, okW_inj h2]
theorem keyN_np (x : Np) : ∃ a b, keyN (ndD x.1) = some a ∧ keyN (ndD x.2) = some b ∧ keyN (npD x) = some (.tup [a, b]) := by
  obtain ⟨x1, x2⟩ := x
  have h1 := keyN_nd x1
  have h2 := keyN_nd x2
  refine ⟨_, _, h1, h2, ?_⟩
  unfold npD keyN
  simp only [keysN, h1, h2]
theorem keyE_np (a b : Np) : keyE (npD a) (npD b) = decide (a = b) := by
  obtain ⟨p, q, h1, h2, h3⟩ := keyN_np a
  obtain ⟨p', q', g1, g2, g3⟩ := keyN_np b
  unfold keyE
  rw [h3, g3]
  by_cases e : a = b
  · subst e
    rw [h1] at g1; rw [h2] at g2
    cases g1; cases g2
    simp
  · rw [decide_eq_false e, decide_eq_false_iff_not]
    intro z
    injection z with z
    injection z with z
    injection z with z1 z
    injection z with z2 _
    subst z1 z2
    exact e (Prod.ext (keyN_inj (by rw [h1, g1])) (keyN_inj (by rw [h2, g2])))
theorem gnD_np (x : Np) : gnD (npD x) = true := by
  obtain ⟨x1, x2⟩ := x
  rcases x1 with _ | ⟨a, b⟩ <;> rcases x2 with _ | ⟨c, d⟩ <;> simp [npD, ndD, gnD, keysN, keyN, NestedKey.depth, NestedKey.depthAll]
theorem gnK_og (o : Og) : gnK (ogD o) = true := by
  unfold gnK ogD
  rw [List.all_map]
  exact List.all_eq_true.mpr fun p _ => gnD_np p.1
theorem okK_og (o : Og) (k : Np) : okK (ogD o) (npD k) = true := by
  unfold okK
  rw [gnK_og, gnD_np]
  simp
theorem any_og (o : Og) (k : Np) : ((ogD o).any fun p => keyE p.1 (npD k)) = has o k := by
  unfold ogD has
  rw [List.any_map]
  congr 1
  funext p
  exact keyE_np p.1 k
theorem putD_og (o : Og) (k : Np) (v : List Np) : putD (ogD o) (npD k) (ogV v) = ogD (put o k v) := by
  unfold putD put
  rw [any_og]
  by_cases h : has o k = true
  · rw [if_pos h, if_pos h]
    unfold ogD
    rw [List.map_map, List.map_map]
    refine List.map_congr_left fun p _ => ?_
    show (if keyE (npD p.1) (npD k) = true then (npD p.1, ogV v) else (npD p.1, ogV p.2)) = (npD (if p.1 = k then (p.1, v) else p).1, ogV (if p.1 = k then (p.1, v) else p).2)
    rw [keyE_np]
    by_cases e : p.1 = k
    · rw [if_pos (decide_eq_true e), if_pos e]
    · rw [if_neg (by simpa using e), if_neg e]
  · rw [if_neg h, if_neg h]
    unfold ogD
    rw [List.map_append]
    rfl
theorem lookD_og (k : Np) : ∀ o : Og, lookD (ogD o) (npD k) = (o.find? fun p => decide (p.1 = k)).map fun p => ogV p.2
  | [] => rfl
  | p :: o => by
    show (if keyE (npD p.1) (npD k) = true then some (ogV p.2) else lookD (ogD o) (npD k)) = _
    rw [keyE_np, List.find?_cons, lookD_og k o]
    by_cases e : p.1 = k
    · rw [if_pos (decide_eq_true e), decide_eq_true e]; rfl
    · rw [if_neg (by simpa using e), decide_eq_false e]
theorem lookD_has (o : Og) (k : Np) : (has o k = true → ∃ d, lookD (ogD o) (npD k) = some d) ∧ (has o k = false → lookD (ogD o) (npD k) = none) := by
  rw [lookD_og]
  unfold has
  constructor
  · intro h
    obtain ⟨p, hp, e⟩ := List.any_eq_true.mp h
    cases q : o.find? fun p => decide (p.1 = k) with
    | none => exact absurd e (by have := List.find?_eq_none.mp q p hp; simpa using this)
    | some p => exact ⟨_, rfl⟩
  · intro h
    have : o.find? (fun p => decide (p.1 = k)) = none := List.find?_eq_none.mpr fun p hp => by
      have := List.any_eq_false.mp h p hp
      simpa using this
    rw [this]; rfl
theorem put_len (o : Og) (k : Np) (v : List Np) : (put o k v).length ≤ o.length + 1 ∧ o.length ≤ (put o k v).length := by
  unfold put
  split
  · rw [List.length_map]; omega
  · rw [List.length_append]; simp
theorem sd_len (o : Og) (k : Np) (v : List Np) : (sd o k v).length ≤ o.length + 1 ∧ o.length ≤ (sd o k v).length := by
  unfold sd
  split
  · omega
  · rw [List.length_append]; simp
theorem put_ne (o : Og) (k : Np) (v : List Np) : put o k v ≠ [] := by
  unfold put
  split
  · rename_i h
    cases o with
    | nil => cases h
    | cons a b => simp
  · simp
theorem sd_ne (o : Og) (k : Np) (v : List Np) : sd o k v ≠ [] := by
  unfold sd
  split
  · rename_i h
    cases o with
    | nil => cases h
    | cons a b => simp
  · simp
/-! ### what the functions find -/
def rngN (o : Bool) : Span → List Nd
  | none => []
  | some p => (List.range (p.2 - p.1 + 1).toNat).map fun i : Nat => some (p.1 + (i : Int), o)
def respL (g b : Span) (h : Bool) : List Nd := (if h then [none] else []) ++ rngN true g ++ rngN false b
def widN : Span → Int
  | none => 0
  | some p => p.2 - p.1 + 1
def respN (g b : Span) (h : Bool) : Int := widN g + widN b + if h then 1 else 0
def aft (ps : List Int) (t : Nat) (e more : Nd) : Nd := match ps[t]?, e with
  | some z, some (x, false) => lat more (x + z)
  | _, _ => e
def chk (o : Og) : Option Og := if o.length > 200 then none else some o
def callO (rs : List Nd) : Og := rs.foldl (fun o r => put o (r, r) []) []
def tmoO (n m : Option Int) (ps : List Np) : Og := ps.foldl (fun o x => put o (tmoN n x.1, tmoN m x.2) [x]) []
def twoO (f g : Nd → Nd → Nd) (ps qs : List Np) : Og := ps.foldl (fun o x => qs.foldl (fun o y => sd o (f x.1 y.1, g x.2 y.2) [x, y]) o) []
def att0 (ps : List Np) : Og := ps.foldl (fun o x => put o x [x]) []
def attS (us vs : List Int) (t : Nat) (ps : List Np) (o : Og) : Og := o.foldl (fun acc e => ps.foldl (fun acc m => sd acc (aft us t e.1.1 m.1, aft vs t e.1.2 m.2) (e.2 ++ [m])) acc) []
def attO (us vs : List Int) (ps : List Np) : Nat → Option Og
  | 0 => some (att0 ps)
  | t + 1 => (attO us vs ps t).bind fun o => chk (attS us vs t ps o)
def keys (o : Og) : List Np := o.map (·.1)
/-- two policies of the same form -/
def Fm : Pol → Pol → Prop
  | .call l g b h, q => q = .call l g b h
  | .wait _, .wait _ => True
  | .two k a b, .two k' c d => k = k' ∧ Fm a c ∧ Fm b d
  | .num k _ a b, .num k' _ c d => k = k' ∧ Fm a c ∧ Fm b d
  | .retry _ a, .retry _ b => Fm a b
  | .tmo _ a, .tmo _ b => Fm a b
  | _, _ => False
/-- the joint endings; none: too many -/
def jog : Pol → Pol → Option Og
  | .call l g b h, _ => if respN g b h > 200 then none else some (callO (respL g b h))
  | .wait n, .wait m => some [((some (n, true), some (m, true)), [])]
  | .two k a b, .two _ c d => (jog a c).bind fun o => (jog b d).bind fun o' => chk (twoO (twoN k) (twoN k) (keys o) (keys o'))
  | .num k n a b, .num _ m c d => (jog a c).bind fun o => (jog b d).bind fun o' => chk (twoO (numN k n) (numN k m) (keys o) (keys o'))
  | .retry us a, .retry vs b => (jog a b).bind fun o => (attO us vs (keys o) (max us.length vs.length)).bind chk
  | .tmo n a, .tmo m b => (jog a b).bind fun o => chk (tmoO n m (keys o))
  | _, _ => none
def jdD (p : Pol) (o : Og) (bl : List PyData) : PyData := insD (Str.ofString "Joint") [(.str (Str.ofString "part"), p.pd), (.str (Str.ofString "origins"), .dict (ogD o)), (.str (Str.ofString "below"), .list bl)]
/-- the instance -/
def jdat : Pol → Pol → PyData
  | .two k a b, .two k' c d => jdD (.two k a b) ((jog (.two k a b) (.two k' c d)).getD []) [jdat a c, jdat b d]
  | .num k n a b, .num k' m c d => jdD (.num k n a b) ((jog (.num k n a b) (.num k' m c d)).getD []) [jdat a c, jdat b d]
  | .retry us a, .retry vs b => jdD (.retry us a) ((jog (.retry us a) (.retry vs b)).getD []) [jdat a b]
  | .tmo n a, .tmo m b => jdD (.tmo n a) ((jog (.tmo n a) (.tmo m b)).getD []) [jdat a b]
  | p, q => jdD p ((jog p q).getD []) []
end Cp.Jt
/-! Lce: a list comprehension that an exception of a callee may leave. -/
namespace L2
open PySem PySem.Spec PyProof.Rows
section
variable {M : Model} {A : Around} {E : Value → Shared → Prop} {s : Shared} {env : Env}
def postE (M : Model) (A : Around) (E : Value → Shared → Prop) (use : Option (Value → Sem Unit)) (Q : Value → Shared → Prop) (acc : Value) (ce : Env) (r : Result) (t : Shared) : Prop := match r with
  | .ok _ => (match use with
    | none => ∃ m, t.heap.Ns ce.locals m ∧ ∀ g, Heap.SameBut ce.locals t.heap g → Q acc { t with heap := g }
    | some u => wpAny M A (u acc) (fun _ t' => ∃ m, t'.heap.Ns ce.locals m ∧ ∀ g, Heap.SameBut ce.locals t'.heap g → Q .none { t' with heap := g }) E t)
  | .error x => ∃ m, t.heap.Ns ce.locals m ∧ ∀ g, Heap.SameBut ce.locals t.heap g → wpAny M A (passOn "comprehension.variables-let-go" x ce : Sem Value) (fun _ _ => False) E { t with heap := g }
theorem comp_runE {e : Expr} {scope : Scope} {pos : Pos} {mk fst : Sem Value} {c : Comprehension} {cs : List Comprehension} {cl : List (Str × Addr)} {Q : Value → Shared → Prop} {use : Option (Value → Sem Unit)}
    (h1 : clausesOf e = c :: cs) (h2 : ∀ x, foldedSetIterable c.iter env x = pure x) (h3 : closureFor scope env = pure cl) (h4 : scope.kind = .function) (h5 : ∀ x ∈ scope.names, x.2 = .local → scope.names.lookup x.1 = some .local)
    (h : wpAny M A fst (fun x t₁ => wpAny M A (pyIter x) (fun it t₂ => wpAny M A mk (fun acc t₃ => wpAny M A (newFunctionEnv scope env.globals cl [] env.qual none .none (some env)) (fun cv t₄ => codeAny M A (.compStart e 0 it acc { cv with scope := relabel scope env }) (postE M A E use Q acc { cv with scope := relabel scope env }) t₄) E t₃) E t₂) E t₁) E s) :
    wpAny M A (comprehension e scope env pos mk false fst use) Q E s := by
  unfold comprehension
  rw [h3, h1]
  refine wpAny_bind (wpAny_mono h (fun x t₁ k₁ => ?_) fun _ _ z => z)
  refine wpAny_bind (wpAny_standAt (wpAny_bind (wpAny_of_eq (h2 x) (wpAny_bind (wpAny_holding (wpAny_mono k₁ (fun it t₂ k₂ => ?_) fun _ _ z => z))))))
  refine wpAny_standIf (wpAny_bind (wpAny_mono k₂ (fun acc t₃ k₃ => ?_) fun _ _ z => z))
  refine wpAny_bind (wpAny_pure (wpAny_bind (wpAny_mono k₃ (fun cv t₄ k₄ => ?_) fun _ _ z => z)))
  dsimp only
  have vs : ∀ x ∈ (scope.names.filter fun x => (x.2 == .local || x.2 == .cell) && x.1 != (".0" : Str)).reverse, x.2 = .local → Env.kindOf { cv with scope := relabel scope env } x.1 = some .local := fun x hx hl =>
    lookup_relabel_local (h5 x (List.mem_filter.mp (List.mem_reverse.mp hx)).1 hl)
  refine wpAny_holding (wpAny_bind (wpAny_attempt (wpAny_holding (wpAny_run (codeAny_mono k₄ fun r t kr => ?_)))))
  have vs2 : ∀ x ∈ (scope.names.filter fun x => (x.2 == .local || x.2 == .cell) && x.1 != (".0" : Str)).reverse.drop 1 ++ (scope.names.filter fun x => (x.2 == .local || x.2 == .cell) && x.1 != (".0" : Str)).reverse.take 1,
      x.2 = .local → Env.kindOf { cv with scope := relabel scope env } x.1 = some .local := fun x hx hl => (List.mem_append.mp hx).elim (fun q => vs x (List.mem_of_mem_drop q) hl) fun q => vs x (List.mem_of_mem_take q) hl
  cases r with
  | ok f =>
    cases use with
    | none =>
      obtain ⟨m, k5, k6⟩ := kr
      exact wpAny_bind (wpAny_holding (wpAny_comp_letGo (cenv := { cv with scope := relabel scope env }) h4 _ t m vs k5 fun g m' _ k7 => wpAny_pure (k6 g k7)))
    | some u =>
      have kr : wpAny M A (u _) _ E t := kr
      refine wpAny_bind (wpAny_rule (wpAny_bind (wpAny_holding (wpAny_mono kr (fun _ t' k8 => ?_) fun _ _ z => z))))
      obtain ⟨m, k5, k6⟩ := k8
      exact wpAny_bind (wpAny_comp_letGo (cenv := { cv with scope := relabel scope env }) h4 _ t' m vs2 k5 fun g m' _ k7 => wpAny_pure (k6 g k7))
  | error x =>
    obtain ⟨m, k5, k6⟩ := kr
    cases use <;> exact wpAny_bind (wpAny_holding (wpAny_comp_letGo (cenv := { cv with scope := relabel scope env }) h4 _ t m vs k5 fun g m' _ k7 => wpAny_mono (k6 g k7) (fun _ _ z => z.elim) fun _ _ z => z))
end
section
open HandSPX
variable {M : Model} {A : Around} {E : Value → Shared → Prop} {s : Shared} {Z : Obj → Prop} {base : Heap} {env : Env} {outer : List Env} {L L0 e : Addr}
theorem note_env {ce : Env} (h : ce.frame = env.frame) (x : Value) : noteFrame x ce = noteFrame x env := by
  unfold noteFrame PySem.frameOf
  rw [h]
/-- noted at another place already -/
theorem looks_heldZ {Q : Unit → Shared → Prop} (hZ : Steady Z) (hfr : A.frames = some (env :: outer)) (hf : env.frame = some L) (hh : HeldZ base (env :: outer) e Z L0 s.heap)
    (hQ : ∀ h', HeldZ base (env :: outer) e Z L h' → s.heap.UpToSlots h' → Q () { s with heap := h' }) : wpAny M A (noteFrame (.ref e) env) Q E s := by
  by_cases hL : L0 = L
  · subst hL
    exact againZ hf hh.2.2.2 (hQ s.heap hh (Heap.UpToSlots.refl _))
  obtain ⟨kb, en, fl, oe, vs, T, oT, ts, he, hz, hd, hv, nT, Te, hT, dT, h3⟩ := hh
  unfold noteFrame
  simp only [hf]
  refine wpAny_bind (wpAny_field he hd hv ?_)
  rw [if_pos (show (Value.ref T != Value.none) = true from by simp)]
  refine wpAny_bind (wpAny_field hT dT h3 ?_)
  have ne : ¬ ((rawInt L0 == rawInt L) = true) := fun z => by
    have z : ((L0 : Nat) : Int) = ((L : Nat) : Int) := by simpa [rawInt] using z
    exact hL (Int.ofNat.inj z)
  rw [if_neg ne]
  refine wpAny_bind (wpAny_setField hT dT (Array.getElem?_eq_some_iff.mp h3).1 ?_)
  have oth : ∀ b, b ≠ T → (s.heap.update T (Obj.mapFields (·.setIfInBounds 3 Value.none))).get? b = s.heap.get? b := fun b hb => Heap.get?_update_other _ _ (Ne.symm hb)
  have nr : ∀ b o, s.heap.get? b = some o → (∀ vs, o.data ≠ .fields vs) → b ≠ T := fun b o hb hn q => by
    rw [q, hT] at hb
    cases hb
    exact hn ts dT
  refine wpAny_entryZ hZ hfr (fl.of_keeps fun b o hb hn => ⟨o, (oth b (nr b o hb hn)).trans hb, rfl⟩) hf ((oth e (Ne.symm Te)).trans he)
    (fun b o hbo => (oth b fun q => by rw [q, nT] at hbo; cases hbo).trans (kb b o hbo)) en hd (Array.getElem?_eq_some_iff.mp hv).1 hz fun g k => ?_
  obtain ⟨x1, x2, x3, x4⟩ := k
  exact hQ g ⟨x1, en, x2, x3⟩ fun b o hb hn => x4 b o ((oth b (nr b o hb hn)).trans hb) hn
end
/-- an object that is no record is hidden; it has turned -/
theorem held_hide {B g h : Heap} {a : Addr} {Z : Obj → Prop} {L C : Addr} {l : List Env} {m : Str → Option Value} (hh : HandSPX.HeldZ B l a Z L g) (sb : Heap.SameBut C g h) (hm : g.Ns C m) (hC : C ∉ frs l) :
    HandSPX.HeldZ (PySem.W.hideAll B [C]) l a Z L h := by
  obtain ⟨kb, en, fl, oe, vs, T, oT, ts, he, hz, hd, hv, nT, Te, hT, dT, h3⟩ := hh
  have hid : ∀ b o, (PySem.W.hideAll B [C]).get? b = some o → B.get? b = some o ∧ b ≠ C := fun b o q => ⟨PySem.W.of_hideAll _ q, fun z => by
    rw [z, PySem.W.hideAll_none _ (List.mem_singleton.mpr rfl)] at q; cases q⟩
  have hno : ∀ b, B.get? b = none → (PySem.W.hideAll B [C]).get? b = none := fun b q => by
    cases z : (PySem.W.hideAll B [C]).get? b with
    | none => rfl
    | some o => have := (hid b o z).1; rw [q] at this; cases this
  have nrec : ∀ b o vs, g.get? b = some o → o.data = .fields vs → b ≠ C := fun b o vs q d z => by
    obtain ⟨o', es, ep, ho, r⟩ := hm
    rw [z, ho] at q
    cases q
    rw [d] at r
    simp at r
  have fr : ∀ l : List Env, (∀ x ∈ frs l, x ≠ C) → g.FunFrames B l → h.FunFrames (PySem.W.hideAll B [C]) l := by
    intro l
    induction l with
    | nil => intro _ _; trivial
    | cons v r ih =>
      intro hx hl
      obtain ⟨q1, ⟨P, o, q2, q3, q4, q5⟩, q6⟩ := hl
      refine ⟨q1, ⟨P, o, q2, hno P q3, (sb.2 P (hx P (List.mem_filterMap.mpr ⟨v, List.mem_cons_self, q2⟩))).trans q4, q5⟩, ih (fun x z => hx x ?_) q6⟩
      obtain ⟨y, y1, y2⟩ := List.mem_filterMap.mp z
      exact List.mem_filterMap.mpr ⟨y, List.mem_cons_of_mem _ y1, y2⟩
  exact ⟨fun b o q => (sb.2 b (hid b o q).2).trans (kb b o (hid b o q).1), hno _ en, fr l (fun x z q => hC (q ▸ z)) fl, oe, vs, T, oT, ts, (sb.2 a (nrec a oe vs he hd)).trans he, hz, hd, hv, hno _ nT, Te, (sb.2 T (nrec T oT ts hT dT)).trans hT, dT, h3⟩
section
variable {X : Cx} {σ : St}
/-- what an exception that is noted has to come to -/
def outE (X : Cx) (σ : St) (s : Shared) (H : Hp) (fp : List Addr) (ce : Env) (e : Value) (t : Shared) : Prop :=
  (∃ pins, Inv X pins σ H s ∧ (∀ b ∈ fp, FpOk X pins H b ∧ b < s.heap.objs.size) ∧ ce.locals = s.heap.objs.size) →
    ∃ m, t.heap.Ns ce.locals m ∧ ∀ g, Heap.SameBut ce.locals t.heap g → wpAny (model X.prog X.w) X.A (passOn "comprehension.variables-let-go" e ce : Sem Value) (fun _ _ => False) X.xe { t with heap := g }
def xeE (X : Cx) (σ : St) (s : Shared) (H : Hp) (fp : List Addr) (ce : Env) : Value → Shared → Prop := fun e t => wpAny (model X.prog X.w) X.A (noteFrame e ce) (fun _ t' => outE X σ s H fp ce e t') (fun _ _ => False) t
/-- the block's context out of which a callee's exception goes; σ: the def's slots -/
abbrev Cx.blkE (X : Cx) (σ : St) (s : Shared) (H : Hp) (scope : Scope) (ce : Env) (fp : List Addr) : Cx := (X.blk s H scope ce fp).tr [] (xeE X σ s H fp ce)
theorem takesE {W : WX} {s : Shared} {H : Hp} {scope : Scope} {A : Addr} {cl : List (Str × Addr)} {fp : List Addr} (hs : X.stack = X.env :: X.outer) (hf : X.env.frame = some X.env.locals) (tk : Takes X W) :
    Takes (X.blkE σ s H scope (compEnvC scope cl A X.env) fp) fun cls d _ H' => W cls d σ H' := by
  rintro u t ⟨a, B, sI, pins, σ1, H1, cls, d, rfl, I, nb, up, sky, na, os, ag, w⟩
  have hfr : X.A.frames = some (X.env :: X.outer) := by
    have h : X.A.frames = some X.stack := I.ok.frames
    rw [hs] at h; exact h
  have sky : Sky B (X.env :: X.outer) a (Zc cls d) A t.heap := by rw [← hs]; exact sky
  have fin : ∀ h1, HandSPX.HeldZ B (X.env :: X.outer) a (Zc cls d) X.env.locals h1 → t.heap.UpToSlots h1 → outE X σ s H fp (compEnvC scope cl A X.env) (.ref a) { t with heap := h1 } := by
    rintro h1 hh up1 ⟨pins0, I0, hfp, hC⟩
    have hC : A = s.heap.objs.size := hC
    have IL : Inv (X.blkE σ s H scope (compEnvC scope cl A X.env) fp) pins σ1 H1 { t with heap := h1 } := I.landed (s' := { t with heap := h1 }) nb hh.1 (up.trans up1) os ag
    obtain ⟨m, hm, _⟩ := IL.loc
    have hm : h1.Ns A m := hm
    refine ⟨m, hm, fun g sb => ?_⟩
    have sb : Heap.SameBut A h1 g := sb
    have nC : H1 A = none := I.free
    have J0 : Inv X pins0 σ H1 sI := I0.call' (ch := fp) I.os I.base I.hok I.bare fun b hb => ⟨(hfp b hb).1.2.2.2.1, (hfp b hb).1.2.1, (hfp b hb).1.2.2.2.2.1, (hfp b hb).1.2.2.2.2.2⟩
    obtain ⟨f0, f1, f2, f3, f4, f5⟩ := I0.fpOk (b := A) (by rw [hC]; exact Nat.le_refl _) nC
    have J1 : Inv X pins0 σ H1 { sI with heap := PySem.W.hideAll sI.heap [A] } := J0.turned (t' := sI.toks) (it := A) (fun b o hb q => PySem.W.hideAll_get _ q (by simpa using hb)) f0 f1 f3 f4 f5
    have fS : A ∉ frs (X.env :: X.outer) := fun z => by
      have z : A ∈ frs X.stack := by rw [hs]; exact z
      rcases List.mem_cons.mp (I0.stkSub A z) with q | q
      · exact f1 q
      · exact f2 q
    have hh2 := held_hide (C := A) hh sb hm fS
    have hid : ∀ b o, (PySem.W.hideAll sI.heap [A]).get? b = some o → sI.heap.get? b = some o ∧ b ≠ A := fun b o q => ⟨PySem.W.of_hideAll _ q, fun z => by
      rw [z, PySem.W.hideAll_none _ (List.mem_singleton.mpr rfl)] at q; cases q⟩
    have fe : (compEnvC scope cl A X.env).frame = some X.env.locals := hf
    obtain ⟨oe, vs, T, oT, ts, he, hz, hd, hv, nT, Te, hT, dT, h3⟩ := hh2.2.2.2
    unfold PySem.passOn
    refine wpAny_bind (wpAny_field he hd hv ?_)
    rw [if_neg (show ¬ ((Value.ref T == Value.none) = true) from by simp)]
    rw [fe]
    have fin2 : wpAny (model X.prog X.w) X.A (setFlight (.ref a) (some X.env.locals)) (fun _ t4 => wpAny (model X.prog X.w) X.A (throw (.ref a) : Sem Value) (fun _ _ => False) X.xe t4) X.xe { t with heap := g } := by
      refine HandSPX.setFlight_onZ hh2 fun h4 hh4 up4 => wpAny_throw (tk _ _ ?_)
      refine ⟨a, _, { sI with heap := PySem.W.hideAll sI.heap [A] }, pins0, σ, H1, cls, d, rfl, J1, fun b o q hb => ?_, fun b o q hn => ?_, .inr (.inr (by rw [hs]; exact hh4)), na, os, ag, w⟩
      · exact PySem.W.hideAll_get _ (nb b o (hid b o q).1 hb) (by simpa using (hid b o q).2)
      · obtain ⟨sl, k1⟩ := (up.trans up1) b o (hid b o q).1 hn
        obtain ⟨sl2, k2⟩ := up4 b { o with slots := sl } ((sb.2 b (hid b o q).2).trans k1) hn
        exact ⟨sl2, k2⟩
    first
      | exact wpAny_bind (wpAny_pure (wpAny_bind fin2))
      | exact wpAny_bind fin2
  show wpAny (model X.prog X.w) X.A (noteFrame (.ref a) (compEnvC scope cl A X.env)) _ _ t
  rw [note_env (ce := compEnvC scope cl A X.env) (env := X.env) rfl]
  rcases sky with ⟨hB, hn, hl, oe, vs, he, hz, hd, h1⟩ | fl | hh
  · exact HandSPX.look_newZ Zc.steady hfr hl hf he hB hn hd h1 hz fin
  · exact HandSPX.looks_onZ Zc.steady hfr hf fl fin
  · exact looks_heldZ Zc.steady hfr hf hh fin
/-- the comprehension of one clause; the element's rule in the block that lets exceptions out -/
theorem lcE_core {pins : List (Addr × Obj)} {s : Shared} {σ : St} {H : Hp} {Q : VK} {elt tg iter : Expr} {ifs : List Expr} {scope : Scope} {own : List (Str × Nat)} {pos pos' : Pos} {wi : TI} {g : TG} {tt : TT} {te : TE} {use : Option (Value → Sem Unit)} {Qf : Value → Shared → Prop}
    (hc : X.calm = true) (hN : X.N.Nodup) (I : Inv X pins σ H s) (hi : PI X tg iter wi) (ok : BlkOk X.N X.env.scope scope own)
    (hg : ∀ (t : Shared) (J : Hp) (C : Addr) (cl : List (Str × Addr)) (fp : List Addr), PG (X.blkE σ t J scope (compEnvC scope cl C X.env) fp) tg g)
    (ht : ∀ (t : Shared) (J : Hp) (C : Addr) (cl : List (Str × Addr)) (fp : List Addr), PTs (X.blkE σ t J scope (compEnvC scope cl C X.env) fp) ifs tt)
    (he : ∀ (t : Shared) (J : Hp) (C : Addr) (cl : List (Str × Addr)) (fp : List Addr), PE (X.blkE σ t J scope (compEnvC scope cl C X.env) fp) elt te)
    (hsi : ∀ x, foldedSetIterable iter X.env x = pure x) (h : tLc wi g tt te (own.map (·.2)) σ H Q)
    (hR : ∀ D (ce : Env) t m J, Inv X pins σ J t → Q (.ref D) J → t.heap.Ns ce.locals m → FpOk X pins J ce.locals → postE (model X.prog X.w) X.A X.xe use Qf (.ref D) ce (.ok .next) t) :
    wpAny (model X.prog X.w) X.A (comprehension (.ListComp elt [⟨tg, iter, ifs, 0⟩] scope pos) scope X.env pos' (newList []) false (eval iter X.env) use) Qf X.xe s := by
  have hfr : ∀ y ∈ scope.names, y.2 = .free → ∃ c, X.env.cells.lookup y.1 = some c := fun y hy e => (ok.free y hy e).elim (fun k => I.ok.has _ (.inl k)) fun k => I.ok.has _ (.inr k)
  refine comp_runE rfl hsi (closure_ok hfr) ok.kind (fun y hy e => by rw [ok.uniq y hy, e]) (thn (hi.run pins s σ H _ I h) fun xv t1 hx => thn hx fun itv t2 h2 => ?_)
  obtain ⟨it, fp, tn, J, H2, rfl, I2, T, q2, f2, q⟩ := h2
  refine wpAny_newObj_type (newEnv_comp ?_) (by show 0 ≤ sizeLine; decide)
  generalize hD : t2.heap.objs.size = D
  have nD : H2 D = none := I2.hok.fresh (Nat.le_of_eq hD)
  obtain ⟨W, ⟨m0, w0⟩, turn⟩ := q D nD
  generalize e3 : ({ t2 with heap := t2.heap.push { cls := .type "list", data := .seq ([] : List Value).toArray } } : Shared) = t3
  have I3 : Inv X pins σ (upd H2 D (.lst [])) t3 := by
    subst e3
    refine I2.laid (t' := t2.toks) (fun b o e => Heap.get?_push_of_some _ e) (Nat.le_of_eq hD) ⟨Nat.zero_le _, [], 0, .nil, ?_⟩
    subst hD
    exact Heap.get?_push_size _ rfl
  have p3 : t3.heap = t2.heap.push { cls := .type "list", data := .seq ([] : List Value).toArray } := by subst e3; rfl
  have f3 : ∀ b ∈ fp, FpOk X pins (upd H2 D (.lst [])) b ∧ b < t3.heap.objs.size := fun b hb => by
    obtain ⟨o, e, _⟩ := T.obj _ _ q2 b hb
    have lt := Heap.lt_size e
    refine ⟨⟨?_, (f2 b hb).2⟩, by rw [p3, Heap.size_push]; exact Nat.lt_succ_of_lt lt⟩
    rw [upd_ne (by rw [← hD]; exact Nat.ne_of_lt lt)]
    exact (f2 b hb).1
  have q3 : tn 0 t3.heap := T.keep _ _ _ q2 fun b _ o e => by rw [p3]; exact Heap.get?_push_of_some _ e
  obtain ⟨cl, hcl⟩ : ∃ cl, cl = cellsFrom (t3.heap.objs.size + 1) scope.names (cloFrom X.env.cells scope.names []) := ⟨_, rfl⟩
  have I4 : Inv (X.blkE σ t3 (upd H2 D (.lst [])) scope (compEnvC scope cl t3.heap.objs.size X.env) fp) [] (wipe σ (own.map (·.2))) (upd H2 D (.lst [])) { t3 with heap := pushCells (t3.heap.push { cls := .type "dict", data := .dict #[] }) scope.names } := by
    rw [hcl]
    exact (block_start I3 ok hN f3).toTry _
  have pg := hg t3 (upd H2 D (.lst [])) t3.heap.objs.size cl fp
  have pt := ht t3 (upd H2 D (.lst [])) t3.heap.objs.size cl fp
  have pe := he t3 (upd H2 D (.lst [])) t3.heap.objs.size cl fp
  have facts : ∃ pins, Inv X pins σ (upd H2 D (.lst [])) t3 ∧ (∀ b ∈ fp, FpOk X pins (upd H2 D (.lst [])) b ∧ b < t3.heap.objs.size) ∧ (compEnvC scope cl t3.heap.objs.size X.env).locals = t3.heap.objs.size := ⟨pins, I3, f3, rfl⟩
  have go2 : codeAny (model X.prog X.w) X.A (.compStart (.ListComp elt [⟨tg, iter, ifs, 0⟩] scope pos) 0 (.ref it) (.ref D) (compEnvC scope cl t3.heap.objs.size X.env)) (postE (model X.prog X.w) X.A X.xe use Qf (.ref D) (compEnvC scope cl t3.heap.objs.size X.env)) { t3 with heap := pushCells (t3.heap.push { cls := .type "dict", data := .dict #[] }) scope.names } := by
    have nfp : ∀ b ∈ fp, (upd H2 D (.lst [])) b = none := fun b hb => (f3 b hb).1.1
    generalize hce : compEnvC scope cl t3.heap.objs.size X.env = ce at I4 pg pt pe facts ⊢
    have cL : ce.locals = t3.heap.objs.size := by subst hce; rfl
    generalize hH3 : upd H2 D (.lst []) = H3 at I3 I4 pg pt pe w0 nfp f3 facts
    generalize hs4 : ({ t3 with heap := pushCells (t3.heap.push { cls := .type "dict", data := .dict #[] }) scope.names } : Shared) = t4 at I4 ⊢
    have q4 : tn 0 t4.heap := T.keep _ _ _ q3 fun b _ o e => by rw [← hs4]; exact pushCells_keeps _ _ _ _ (Heap.get?_push_of_some _ e)
    obtain ⟨Y, hY⟩ : ∃ Y : Cx, Y = X.blkE σ t3 H3 scope ce fp := ⟨_, rfl⟩
    have out : ∀ (e : Value) (t : Shared), Y.xe e t → notedBy (model X.prog X.w) X.A ce (fun e t' => postE (model X.prog X.w) X.A X.xe use Qf (.ref D) ce (.error e) t') e t := fun e t z => by
      subst hY
      exact wpAny_mono z (fun _ t' k => k facts) fun _ _ z => z.elim
    have stat : ∀ {τ : St} {J' : Hp} {t : Shared}, Inv Y [] τ J' t → (∀ b ∈ fp, J' b = none) → ∀ b ∈ fp, FpOk Y [] J' b := fun {τ J' t} i n b hb => by
      subst hY
      exact ⟨n b hb, (i.ok.exf b hb).1, i.ok.exfs b hb, .inl hb, fun x c e => (i.ok.exf b hb).2 x c e, fun p hp => absurd (show p ∈ ([] : List (Addr × Obj)) ++ [] from hp) (by simp)⟩
    have loop : codeAny (model X.prog X.w) X.A (.compLoop (.ListComp elt [⟨tg, iter, ifs, 0⟩] scope pos) 0 (.ref it) (.ref D) ce) (postE (model X.prog X.w) X.A X.xe use Qf (.ref D) ce) t4 := by
      refine compLoop_any (fun n t => ∃ i J', Inv (X.blkE σ t3 H3 scope ce fp) [] (wipe σ (own.map (·.2))) J' t ∧ tn i t.heap ∧ (∀ b ∈ fp, J' b = none) ∧ W i n J') ?_ m0 ⟨0, H3, I4, q4, nfp, w0⟩
      rw [← hY] at I4 pg pt pe ⊢
      have Yp : Y.prog = X.prog ∧ Y.w = X.w ∧ Y.A = X.A ∧ Y.env = ce ∧ Y.calm = true := by subst hY; exact ⟨rfl, rfl, rfl, rfl, hc⟩
      rintro n t5 ⟨i, H5, I5, q5, n5, w5⟩
      rcases turn i n H5 w5 with ⟨stop, qq⟩ | ⟨go, Nx, hNx, step⟩
      · have td := T.done Y (by subst hY; rfl) (by subst hY; rfl) (by subst hY; rfl) Yp.2.2.2.2 i [] t5 _ H5 (fun _ _ => False) I5 (stat I5 n5) q5 stop
        subst hY
        refine thnF td fun r t6 ⟨hr, I6⟩ => ?_
        subst hr
        have I7 : Inv X pins σ H5 t6 := I3.call' (ch := fp) I6.os I6.base I6.hok I6.bare fun b hb => ⟨(f3 b hb).1.2.2.2.1, (f3 b hb).1.2.1, (f3 b hb).1.2.2.2.2.1, (f3 b hb).1.2.2.2.2.2⟩
        have nC : H5 t3.heap.objs.size = none := by
          have z : H5 ce.locals = none := I6.free
          rwa [cL] at z
        obtain ⟨m, hn, _⟩ := I6.loc
        have hn : t6.heap.Ns ce.locals m := hn
        exact hR D ce t6 m H5 I7 qq hn (by rw [cL]; exact I3.fpOk (Nat.le_refl _) nC)
      · have ti := T.item Y (by subst hY; rfl) (by subst hY; rfl) (by subst hY; rfl) Yp.2.2.2.2 i [] t5 _ H5 (fun _ _ => False) I5 (stat I5 n5) q5 go
        have fin0 : ∀ {τ : St} {J' : Hp} {t7 t : Shared}, tn (i + 1) t7.heap → wipe τ (own.map (·.2)) = wipe σ (own.map (·.2)) → Inv Y ([] ++ pinsAt fp t7.heap) τ J' t → Nx J' → ∃ m, m < n ∧ ∃ i J', Inv Y [] (wipe σ (own.map (·.2))) J' t ∧ tn i t.heap ∧ (∀ b ∈ fp, J' b = none) ∧ W i m J' := fun {τ J' t7 t} q7 hw i7 nx => by
          obtain ⟨m', hm, w'⟩ := hNx J' nx
          have pin' : ∀ b ∈ fp, ∀ o, t7.heap.get? b = some o → t.heap.get? b = some o ∧ J' b = none := fun b hb o e => by
            have z := i7.pin (b, o) (List.mem_append_right _ (List.mem_append_right _ (mem_pinsAt hb e)))
            exact ⟨z.1, z.2.1⟩
          refine ⟨m', hm, i + 1, J', (i7.unpinned (pins := [])).weak (by rw [← hw, wipe_length]) (fun j v e => ?_), T.keep _ _ _ q7 fun b hb o e => (pin' b hb o e).1, fun b hb => ?_, w'⟩
          · rw [← hw] at e
            exact (wipe_some e).1
          · obtain ⟨o, e, _⟩ := T.obj _ _ q7 b hb
            exact (pin' b hb o e).2
        subst hY
        refine thnF ti fun r t6 ⟨u, hr, h6⟩ => ?_
        subst hr
        refine thnF h6 fun _ t7 ⟨x, H7, I7, r7, y7, q7, n7⟩ => ?_
        have I7' := I7.pinned (stat I7 n7) (T.obj _ _ q7)
        refine wpAny_mono (pg.run _ t7 _ H7 x u _ I7' r7 (step x H7 y7)) (fun _ t8 ⟨σ8, H8, I8, hw8, q8⟩ => ?_) out
        refine wpAny_mono (pt.run _ t8 σ8 H8 _ I8 q8) (fun b t9 ⟨H9, I9, q9⟩ => ?_) out
        cases b with
        | false =>
          simp only [Bool.false_eq_true, if_false] at q9 ⊢
          exact fin0 q7 hw8 I9 q9
        | true =>
          simp only [if_true] at q9 ⊢
          refine wpAny_mono (pe.run _ t9 σ8 H9 _ I9 q9) (fun z t10 ⟨yv, H10, I10, r10, acc, hD10, hz10, nx⟩ => ?_) out
          exact app_ok (X := X.blkE σ t3 H3 scope ce fp) I10 hD10 hz10 r10 fun t11 I11 => fin0 q7 hw8 I11 nx
    exact codeAny_compStart_list loop (T.self X.A 0 _ _ _ q4 loop)
  rw [hcl] at go2
  exact go2
/-- name = [..] on one line -/
theorem ps_setLcE {i : Nat} {y : Str} {py : Pos} {elt tg iter : Expr} {ifs : List Expr} {scope : Scope} {own : List (Str × Nat)} {pos spos : Pos} {wi : TI} {g : St → TG} {tt te : St → _} (hc : X.calm = true) (hN : X.N.Nodup) (hy : X.N[i]? = some y) (hyl : X.env.scope.names.lookup y = some .local)
    (hsw : swapsWith (.ListComp elt [⟨tg, iter, ifs, 0⟩] scope pos) (some (.Name y py)) spos.line X.env = pure true) (hi : PI X tg iter wi) (ok : BlkOk X.N X.env.scope scope own)
    (hg : ∀ (σ : St) (t : Shared) (J : Hp) (C : Addr) (cl : List (Str × Addr)) (fp : List Addr), PG (X.blkE σ t J scope (compEnvC scope cl C X.env) fp) tg (g σ))
    (ht : ∀ (σ : St) (t : Shared) (J : Hp) (C : Addr) (cl : List (Str × Addr)) (fp : List Addr), PTs (X.blkE σ t J scope (compEnvC scope cl C X.env) fp) ifs (tt σ))
    (he : ∀ (σ : St) (t : Shared) (J : Hp) (C : Addr) (cl : List (Str × Addr)) (fp : List Addr), PE (X.blkE σ t J scope (compEnvC scope cl C X.env) fp) elt (te σ)) (hs : ∀ x, foldedSetIterable iter X.env x = pure x := by intro _; rfl) :
    PS X (.Assign [.Name y py] (.ListComp elt [⟨tg, iter, ifs, 0⟩] scope pos) spos) (tAsg (fun σ H Q => tLc wi (g σ) (tt σ) (te σ) (own.map (·.2)) σ H Q) (gName i)) := by
  refine ⟨fun pins s σ H D I h => ?_⟩
  rw [exec_Assign_Name_used _ _ _ _ hsw]
  refine wpAny_bind (wpAny_standAt (wpAny_bind ?_))
  have h : tLc wi (g σ) (tt σ) (te σ) (own.map (·.2)) σ H (fun x H1 => gName i x σ H1 D.nx) := h
  have core := lcE_core (use := some (assign (.Name y py) X.env)) (pos := pos) (pos' := firstIterPos [⟨tg, iter, ifs, 0⟩] pos) (Qf := fun _ t => SP X pins D .next t) hc hN I hi ok (hg σ) (ht σ) (he σ) hs h fun L ce t m G J q hn f => by
    show wpAny _ _ (assign (.Name y py) X.env (.ref L)) _ _ _
    refine wpAny_assign_Name (store_ok2 (v := V.ref L) J hN hy (.inl hyl) rfl (fun t2 J2 ⟨a, sb, ha⟩ => ?_) (.inr hyl))
    obtain ⟨f0, f1, f2, f3, f4, f5⟩ := f
    have ne : ce.locals ≠ a := ha.elim (fun z => by rw [z]; exact f1) fun z e => f4 y a z e.symm
    refine ⟨m, hn.sameBut sb ne, fun k sb3 => ?_⟩
    exact ⟨_, G, J2.turned (t' := t2.toks) (fun b o hb e => (sb3.2 b hb).trans e) f0 f1 f3 f4 f5, q⟩
  exact wpAny_bind (thn core fun _ t hq => wpAny_pure (wpAny_pure hq))
end
end L2
/-! Clce: list comprehensions that an error may leave, in the layer. -/
namespace Cp
open PySem PySem.Spec PyProof.Rows L2
/-- errors leave at the slots σ -/
def Cn.fix (C : Cn) (σ : L2.St) : Cn := { C with W := fun cls d _ H => C.W cls d σ H }
open Classical in
noncomputable def lcGoE (g : Gm) (tt : En → Sto → Res Bool) (te : Ev) (gd : Option (Nat × List PyData)) (all : List PyData) (ρ : En) : List PyData → Sto → List PyData → Res (List PyData)
  | [], st, acc => if Grd gd all st then .ok acc st else .no
  | d :: r, st, acc => if Grd gd all st then (match g (.d d) ρ st with
      | .ok ρ1 s1 => match tt ρ1 s1 with
        | .ok true s2 => match mV te ρ1 s2 with
          | .ok (.d y) s3 => if acc.length < sizeLine then lcGoE g tt te gd all ρ r s3 (acc ++ [y]) else .no
          | .er e s3 => .er e s3
          | _ => .no
        | .ok false s2 => lcGoE g tt te gd all ρ r s2 acc
        | _ => .no
      | _ => .no) else .no
noncomputable def mLcE (mi : En → Sto → Res Src) (g : Gm) (tt : En → Sto → Res Bool) (te : Ev) (vs : List Nat) : Ev := fun ρ st => (mi ρ st).bind fun dg s => (lcGoE g tt te dg.2 dg.1 (wipeE ρ vs) dg.1 s []).bind fun ys s' => .ok (.n (.l ys)) s'
section
variable {X : Cx} {C : Cn} {e tg iter : Expr} {pos : Pos}
theorem s_lcTE {scope : Scope} {own : List (Str × Nat)} {mi : En → Sto → Res Src} {ws : List Nat} {g : Gm} {tt : En → Sto → Res Bool} {te : Ev} (hws : ∀ i, i ∈ ws → i ∈ own.map (·.2)) (σ : L2.St) (H : Hp) (Q : VK) (h : tM C (mLcE mi g tt te (own.map (·.2))) σ H Q) :
    tLc (tI C mi) (tG (C.fix σ) ws g) (tT (C.fix σ) tt) (tV (C.fix σ) (mV te)) (own.map (·.2)) σ H Q := by
  obtain ⟨ρ, st, μ, F, h1, h2, h3⟩ := h
  refine ⟨ρ, st, μ, F, h1, h2, Post.bindI gE_lat h3 fun dg s J μ' F' H' x0 r0 wk h4 L hL => ?_⟩
  obtain ⟨ds, gd⟩ := dg
  obtain ⟨rn, xn⟩ := r0.newly (o := .lst []) hL
  have dd := r0.dead hL
  refine ⟨fun i m H => m = ds.length - i ∧ i ≤ ds.length ∧ ∃ acc st1 μ1 F1, LcI C μ' F' H' L (wipeE ρ (own.map (·.2))) (wipe σ (own.map (·.2))) acc H st1 μ1 F1 ∧
      PostE (C.at σ) Q μ' F' H' ((lcGoE g tt te gd ds (wipeE ρ (own.map (·.2))) (ds.drop i) st1 acc).bind fun ys s' => .ok (.n (.l ys)) s'),
    ⟨ds.length, rfl, Nat.zero_le _, [], s, μ', F', ⟨xn, rn, (eok_wipe (h1.ext x0) _), ⟨[], upd_same, .nil⟩, dd.1, dd.2⟩, h4⟩, ?_⟩
  rintro i m H ⟨rfl, hi, acc, st1, μ1, F1, I, h5⟩
  by_cases hl : i < ds.length
  · obtain ⟨d, e1, e2⟩ := drop_cons hl
    rw [e2] at h5
    unfold lcGoE at h5
    by_cases hgd : Grd gd ds st1
    · rw [if_pos hgd] at h5
      obtain ⟨go, step⟩ := wk.go i μ1 F1 H st1 d I.x.sx I.r hgd e1
      refine .inr ⟨go, fun H2 => ∃ acc st1 μ1 F1, LcI C μ' F' H' L (wipeE ρ (own.map (·.2))) (wipe σ (own.map (·.2))) acc H2 st1 μ1 F1 ∧
        PostE (C.at σ) Q μ' F' H' ((lcGoE g tt te gd ds (wipeE ρ (own.map (·.2))) (ds.drop (i + 1)) st1 acc).bind fun ys s' => .ok (.n (.l ys)) s'), fun H2 hn => ⟨ds.length - (i + 1), by omega, rfl, hl, hn⟩, fun x H2 y => ?_⟩
      obtain ⟨F2, x2, r2, kd⟩ := step x H2 y
      have I2 := I.later x2 r2
      refine ⟨_, st1, μ1, F2, .d d, I2.k, r2, kd, ?_⟩
      show Post ((C.fix σ).at _) _ μ1 F2 H2 (g (.d d) (wipeE ρ (own.map (·.2))) st1)
      cases q : g (.d d) (wipeE ρ (own.map (·.2))) st1 with
      | no => simp only [q] at h5; exact False.elim h5
      | er _ _ => simp only [q] at h5; exact False.elim h5
      | ok ρ2 s2 =>
        simp only [q] at h5
        intro σ3 μ3 F3 H3 x3 r3 k3 ag
        have I3 := I2.later x3 r3
        refine ⟨wipe_agr ag hws, ρ2, s2, μ3, F3, k3, r3, ?_⟩
        show Post ((C.fix σ).at _) _ μ3 F3 H3 (tt ρ2 s2)
        cases q2 : tt ρ2 s2 with
        | no => simp only [q2] at h5; exact False.elim h5
        | er _ _ => simp only [q2] at h5; exact False.elim h5
        | ok k s3 =>
          intro μ4 F4 H4 x4 r4
          have I4 := I3.later x4 r4
          cases k with
          | false =>
            simp only [q2] at h5
            simp only [Bool.false_eq_true, if_false]
            exact ⟨acc, s3, μ4, F4, I4, h5⟩
          | true =>
            simp only [q2] at h5
            simp only [if_true]
            refine ⟨ρ2, s3, μ4, F4, k3.ext x4, r4, ?_⟩
            show Post ((C.fix σ).at _) _ μ4 F4 H4 (mV te ρ2 s3)
            cases q3 : mV te ρ2 s3 with
            | no => simp only [q3] at h5; exact False.elim h5
            | er e2 s4 =>
              simp only [q3] at h5
              have h5 : Erw (C.at σ) μ' F' H' e2 s4 := h5
              exact fun cls dd μ6 F6 H6 x6 s6 o6 => h5 cls dd μ6 F6 H6 (I4.x.trans x6) s6 o6
            | ok z s4 =>
              intro v μ5 F5 H5 x5 r5 k5
              have I5 := I4.later x5 r5
              cases z with
              | c _ => simp only [q3] at h5; exact False.elim h5
              | s _ => simp only [q3] at h5; exact False.elim h5
              | o _ => simp only [q3] at h5; exact False.elim h5
              | d y =>
                simp only [q3] at h5
                by_cases hz : acc.length < sizeLine
                · rw [if_pos hz] at h5
                  obtain ⟨xs, g1, g2, g3⟩ := I5.put hL k5
                  exact ⟨xs, g1, by rw [g2]; exact hz, acc ++ [y], s4, μ5, F5, g3, h5⟩
                · rw [if_neg hz] at h5; exact False.elim h5
    · rw [if_neg hgd] at h5; exact False.elim h5
  · have e : i = ds.length := by omega
    subst e
    rw [List.drop_length] at h5
    unfold lcGoE at h5
    by_cases hgd : Grd gd ds st1
    · rw [if_pos hgd] at h5
      obtain ⟨xs, g1, g2⟩ := I.l
      exact .inl ⟨wk.stop μ1 F1 H st1 I.x.sx I.r hgd, h5 _ μ1 F1 H ⟨I.x, I.r, ⟨L, _, rfl, g1, ⟨xs, rfl, g2⟩, I.f, I.m⟩, fun c _ => ⟨L, rfl, hL⟩⟩⟩
    · rw [if_neg hgd] at h5; exact False.elim h5
abbrev BlkE (X : Cx) (scope : Scope) (J : L2.St → Cx → Prop) : Prop := ∀ (σ : L2.St) (s : Shared) (H : Hp) (A : Addr) (cl : List (Str × Addr)) (fp : List Addr), J σ (X.blkE σ s H scope (compEnvC scope cl A X.env) fp)
theorem Bd.blkE {k : Nat} (B : Bd k X C) (hs : X.stack = X.env :: X.outer) (hf : X.env.frame = some X.env.locals) (σ : L2.St) (s : Shared) (H : Hp) (scope : Scope) (cl : List (Str × Addr)) (A : Addr) (fp : List Addr) :
    Bd k (X.blkE σ s H scope (compEnvC scope cl A X.env) fp) (C.fix σ) :=
  have tk := takesE (σ := σ) (s := s) (H := H) (scope := scope) (A := A) (cl := cl) (fp := fp) hs hf B.tk
  ⟨B.cm, B.nd, PassesOwn.looking, fun σ' => passAt tk σ', B.hK, B.hw, B.hm, B.rm, tk⟩
/-- name = [..] on one line -/
theorem x_setLcE {i : Nat} {y : Str} {py : Pos} {spos : Pos} {scope : Scope} {own : List (Str × Nat)} {ifs : List Expr} {mi : En → Sto → Res Src} {ws : List Nat} {g : Gm} {tt : En → Sto → Res Bool} {te : Ev} (hc : X.calm = true) (hN : X.N.Nodup) (hy : X.N[i]? = some y) (hyl : X.env.scope.names.lookup y = some .local)
    (hsw : swapsWith (.ListComp e [⟨tg, iter, ifs, 0⟩] scope pos) (some (.Name y py)) spos.line X.env = pure true) (hi : PI X tg iter (tI C mi)) (ok : BlkOk X.N X.env.scope scope own)
    (hg : BlkE X scope fun σ Y => PG Y tg (tG (C.fix σ) ws g)) (ht : BlkE X scope fun σ Y => PTs Y ifs (tT (C.fix σ) tt)) (he : BlkE X scope fun σ Y => PE Y e (tM (C.fix σ) te)) (hws : ∀ i, i ∈ ws → i ∈ own.map (·.2)) (hs : ∀ x, foldedSetIterable iter X.env x = pure x := by intro _; rfl)
    (mv : (Ev → En → Sto → Res Vl)) (hmv : mv = mV ∨ mv = mVc) :
    PS X (.Assign [.Name y py] (.ListComp e [⟨tg, iter, ifs, 0⟩] scope pos) spos) (tS C (sAsg (gNm i) (mv (mLcE mi g tt te (own.map (·.2)))))) := by
  have h := ps_setLcE (spos := spos) (py := py) (g := fun σ => tG (C.fix σ) ws g) (tt := fun σ => tT (C.fix σ) tt) (te := fun σ => tV (C.fix σ) (mV te)) hc hN hy hyl hsw hi ok (fun σ s H A cl fp => hg σ s H A cl fp) (fun σ s H A cl fp => ht σ s H A cl fp) (fun σ s H A cl fp => pv_frz (he σ s H A cl fp)) hs
  refine x_asgLc h fun σ H Q hq => s_lcTE (scope := scope) hws σ H Q ?_
  obtain ⟨ρ, st, μ, F, h1, h2, h3⟩ := hq
  refine ⟨ρ, st, μ, F, h1, h2, ?_⟩
  show PostE (C.at σ) Q μ F H (mLcE mi g tt te (own.map (·.2)) ρ st)
  rcases hmv with rfl | rfl
  · cases q : mLcE mi g tt te (own.map (·.2)) ρ st with
    | ok r s' =>
      simp only [mV, q] at h3
      intro v μ' F' H' o
      obtain ⟨F2, y2, s2, k⟩ := frz_out h2 o
      exact h3 v μ' F2 H' y2 s2 k
    | er e2 s' => simp only [mV, q] at h3; exact h3
    | no => simp only [mV, q] at h3; exact h3
  · cases q : mLcE mi g tt te (own.map (·.2)) ρ st with
    | ok r s' =>
      simp only [mVc, q] at h3
      intro v μ' F' H' o
      cases r with
      | d x => exact h3 v μ' F' H' o.ext o.sr o.rok
      | c x => exact h3 v μ' F' H' o.ext o.sr o.rok
      | s x => exact h3 v μ' F' H' o.ext o.sr o.rok
      | o x => exact h3 v μ' F' H' o.ext o.sr o.rok
      | n c =>
        obtain ⟨ext, sr, ⟨a, o, rfl, g2, g3, g4, g5⟩, new⟩ := o
        obtain ⟨a', e1, h0⟩ := new c rfl
        cases e1
        obtain ⟨s2, y2⟩ := sr.celled ext h0 g2 g4 g5 g3
        exact h3 _ _ _ _ y2 s2 ⟨a, by rw [← sr.len]; simp, rfl⟩
    | er e2 s' => simp only [mVc, q] at h3; exact h3
    | no => simp only [mVc, q] at h3; exact h3
end
end Cp
/-! Mo: sets of moments as lists of stretches, in plain Lean. -/
namespace Mo
abbrev Pr := Int × Int
/-- x lies in one of the stretches -/
def pts (l : List Pr) (x : Int) : Prop := ∃ p ∈ l, p.1 ≤ x ∧ x ≤ p.2
def Val (l : List Pr) : Prop := ∀ p ∈ l, p.1 ≤ p.2
/-- in order, with gaps -/
def Can (l : List Pr) : Prop := l.Pairwise (fun p q => p.2 + 1 < q.1) ∧ Val l
theorem pts_nil (x : Int) : ¬ pts [] x := fun ⟨_, h, _⟩ => nomatch h
theorem Can.tail {p : Pr} {l : List Pr} (h : Can (p :: l)) : Can l := ⟨(List.pairwise_cons.mp h.1).2, fun q hq => h.2 q (List.mem_cons_of_mem _ hq)⟩
/-! ### merged -/
def mx (i j : Int) : Int := if j > i then j else i
def mn (i j : Int) : Int := if j < i then j else i
/-- one more stretch; the list goes backwards -/
def mstep (f : List Pr) (p : Pr) : List Pr := match f with
  | [] => [p]
  | q :: r => if p.1 ≤ q.2 + 1 then (q.1, mx q.2 p.2) :: r else p :: q :: r
/-- the order of pairs -/
def leP (p q : Pr) : Bool := decide (p.1 < q.1) || (decide (p.1 = q.1) && decide (p.2 ≤ q.2))
def srt (l : List Pr) : List Pr := l.mergeSort leP
def mg (l : List Pr) : List Pr := ((srt l).foldl mstep []).reverse
/-! ### the operations -/
def un (l m : List Pr) : List Pr := mg (l ++ m)
def cmRaw (l m : List Pr) : List Pr := l.flatMap fun p => m.flatMap fun q => if mx p.1 q.1 ≤ mn p.2 q.2 then [(mx p.1 q.1, mn p.2 q.2)] else []
def cm (l m : List Pr) : List Pr := mg (cmRaw l m)
def cut (f : List Pr) (q : Pr) : List Pr := (f.flatMap fun p => [(p.1, mn p.2 (q.1 - 1)), (mx p.1 (q.2 + 1), p.2)]).filter fun p => decide (p.1 ≤ p.2)
def smRaw (l m : List Pr) : List Pr := l.flatMap fun p => m.map fun q => (p.1 + q.1, p.2 + q.2)
def sm (l m : List Pr) : List Pr := mg (smRaw l m)
def bey (l : List Pr) (k : Int) : List Pr := (l.filter fun p => decide (k < p.2)).map fun p => (mx p.1 (k + 1), p.2)
def mxm (l m : List Pr) : List Pr := match l, m with
  | [], _ => []
  | _, [] => []
  | p :: l, q :: m => un (bey (p :: l) (q.1 - 1)) (bey (q :: m) (p.1 - 1))
theorem Val.app {l m : List Pr} (h : Val l) (k : Val m) : Val (l ++ m) := fun p hp => (List.mem_append.mp hp).elim (h p) (k p)
/-! ### how many pieces -/
/-! ### moved -/
def mov (l : List Pr) (k : Int) : List Pr := l.map fun p => (p.1 + k, p.2 + k)
/-! ### not below 0 -/
end Mo
/-! Mp: what the program's functions over moments come to. -/
namespace Cp
open PySem L2 PySem.W
open Mo (Pr)
def prs (l : List Pr) : List PyData := l.map fun p => .tuple [.int p.1, .int p.2]
section
variable {st : Sto} {P : Rv → Sto → Prop} {l m : List Pr}
@[simp] theorem prs_len : (prs l).length = l.length := List.length_map _
@[simp] theorem prs_nil : prs [] = [] := rfl
theorem prs_lay : PyData.canLayAll0 (prs l) = true := by
  induction l with
  | nil => rfl
  | cons p l ih => show (PyData.canLay0 (.tuple [.int p.1, .int p.2]) && PyData.canLayAll0 (prs l)) = true; rw [ih]; rfl
theorem prs_dep : PyData.depthAll (prs l) ≤ 1 := depthAll_le fun d hd => by
  unfold prs at hd
  obtain ⟨p, hp, rfl⟩ := List.mem_map.mp hd
  exact Nat.le_refl _
theorem prs_shl : SeqAt.shaped (.list (prs l)) = true := by
  unfold SeqAt.shaped
  have : (PyData.list (prs l)).depth ≤ 64 := by show PyData.depthAll _ + 1 ≤ 64; have := prs_dep (l := l); omega
  rw [decide_eq_true this]
  show (PyData.canLayAll0 (prs l) && true) = true
  rw [prs_lay]; rfl
theorem prs_sht : SeqAt.shaped (.tuple (prs l)) = true := by
  unfold SeqAt.shaped
  have : (PyData.tuple (prs l)).depth ≤ 64 := by show PyData.depthAll _ + 1 ≤ 64; have := prs_dep (l := l); omega
  rw [decide_eq_true this]
  show (PyData.canLayAll0 (prs l) && true) = true
  rw [prs_lay]; rfl
@[simp] theorem kb_ii (x : Int) : kitB (tyD (.int x)) "int" = some true := kitB_int (.int x)
@[simp] theorem kb_ib (x : Int) : kitB (tyD (.int x)) "bool" = some false := kitB_bool (.int x)
@[simp] theorem kb_tt (xs : List PyData) : kitB (tyD (.tuple xs)) "tuple" = some true := kitB_tuple (.tuple xs)
@[simp] theorem truD_b (k : Bool) : truD (.bool k) = some k := rfl
theorem eqv_prs : PyData.eqvAll (prs l) (prs m) = decide (l = m) := by
  induction l generalizing m with
  | nil => cases m with
    | nil => rfl
    | cons q m => rfl
  | cons p l ih => cases m with
    | nil => rfl
    | cons q m =>
      show ((p.1 == q.1) && ((p.2 == q.2) && true) && PyData.eqvAll (prs l) (prs m)) = _
      rw [ih]
      by_cases h1 : p.1 = q.1 <;> by_cases h2 : p.2 = q.2 <;> by_cases h3 : l = m <;> simp [h1, h2, h3, Prod.ext_iff]
theorem gNe_l : gNe (.list (prs l)) (.list (prs m)) = some (!decide (l = m)) := by
  unfold gNe
  rw [prs_shl, prs_shl]
  show some (!PyData.eqvAll (prs l) (prs m)) = _
  rw [eqv_prs]
theorem gNe_t : gNe (.tuple (prs l)) (.tuple (prs m)) = some (!decide (l = m)) := by
  unfold gNe
  rw [prs_sht, prs_sht]
  show some (!PyData.eqvAll (prs l) (prs m)) = _
  rw [eqv_prs]
theorem gEq_t : gEq (.tuple (prs l)) (.tuple (prs m)) = some (decide (l = m)) := by
  unfold gEq
  rw [prs_sht, prs_sht]
  show some (PyData.eqvAll (prs l) (prs m)) = _
  rw [eqv_prs]
@[simp] theorem gNe_l0 : gNe (.list (prs l)) (.list []) = some (!decide (l = [])) := gNe_l (m := [])
@[simp] theorem gEq_t0 : gEq (.tuple (prs l)) (.tuple []) = some (decide (l = [])) := gEq_t (m := [])
@[simp] theorem gNe_t0 : gNe (.tuple (prs l)) (.tuple []) = some (!decide (l = [])) := gNe_t (m := [])
/-- a value that holds the pairs l -/
def Hol (s : Sto) (v : Vl) (l : List Pr) : Prop := view s v = some (.list (prs l)) ∨ view s v = some (.tuple (prs l))
theorem view_app {v : Vl} {d : PyData} {t : Sto} (h : view st v = some d) : view (st ++ t) v = some d := by
  cases v with
  | d x => exact h
  | s x => exact h
  | o x =>
    cases x with
    | ob j =>
      have e : objsOf (st ++ t) = objsOf st := by
        cases q : st[0]? with
        | none =>
          have h : viewO st j = some d := h
          unfold viewO objsOf at h
          rw [q] at h; simp at h
        | some c =>
          unfold objsOf
          rw [List.getElem?_append_left (List.getElem?_eq_some_iff.mp q).1, q]
      show viewO (st ++ t) j = some d
      unfold viewO
      rw [e]; exact h
    | _ => exact h
  | c i =>
    have hi : i < st.length := by
      refine Nat.lt_of_not_le fun z => ?_
      rw [view_c, List.getElem?_eq_none z] at h
      cases h
    rw [view_c, List.getElem?_append_left hi]
    exact h
theorem Hol.app {v : Vl} {t : Sto} (h : Hol st v l) : Hol (st ++ t) v l := h.imp view_app view_app
@[simp] theorem ne_cd {i : Nat} {xs ys : List PyData} {g : PyData → PyData → Option Bool} (h : st[i]? = some (.l xs)) : cmp2 g st (.c i) (.d (.list ys)) = g (.list xs) (.list ys) := cmp2_of (by rw [view_c, h]) rfl
@[simp] theorem take_app2 {α : Type} (s t u : List α) : (s ++ (t ++ u)).take (s.length + t.length) = s ++ t := by
  rw [← List.append_assoc]; exact List.take_left' (by simp)
@[simp] theorem take_app3 {α : Type} (s t : List α) (c : α) : (s ++ c :: t).take (s.length + 1) = s ++ [c] := by
  rw [show s ++ c :: t = (s ++ [c]) ++ t by simp]; exact List.take_left' (by simp)
@[simp] theorem gr2 {α : Type} (s t : List α) (c : α) : (s ++ (t ++ [c]))[s.length + t.length]? = some c := by
  rw [← List.append_assoc, ← List.length_append]; simp
@[simp] theorem sr2 {α : Type} (s t : List α) (c d : α) : (s ++ (t ++ [c])).set (s.length + t.length) d = s ++ (t ++ [d]) := by
  rw [← List.append_assoc, ← List.append_assoc, ← List.length_append, List.set_append_right _ _ (Nat.le_refl _)]; simp
end
end Cp
/-! Pe: the endings of a policy. -/
namespace Cp
open PySem L2
open Mo (Pr)
/-! ### endings -/
structure Ends where
  good : List Pr
  bad : List Pr
  never : Bool
abbrev Ends.pd (e : Ends) : PyData := .tuple [.tuple (prs e.good), .tuple (prs e.bad), .bool e.never]
def upt (l : List Pr) (k : Int) : List Pr := (l.filter fun p => decide (p.1 ≤ k)).map fun p => (p.1, Mo.mn p.2 k)
def lst (l : List Pr) : Option Int := l.head?.map (·.1)
def gst (l : List Pr) : Option Int := l.getLast?.map (·.2)
section
variable {st : Sto} {P : Rv → Sto → Prop} {l m : List Pr} {k : Int}
@[simp] theorem gEq_00 : gEq (.tuple []) (.tuple []) = some true := gEq_t (l := []) (m := [])
@[simp] theorem gNe_00 : gNe (.tuple []) (.tuple []) = some false := gNe_t (l := []) (m := [])
def chk (e : Ends) : Option Ends := if 200 < e.good.length ∨ 200 < e.bad.length then none else some e
theorem chk_some {e e' : Ends} (h : chk e = some e') : e' = e ∧ e.good.length ≤ 200 ∧ e.bad.length ≤ 200 := by
  unfold chk at h
  split at h
  · cases h
  · rename_i q; cases h; exact ⟨rfl, by omega, by omega⟩
def Ends.late (e : Ends) (k : Int) : Bool := e.never || (!decide (Mo.bey e.good k = []) || !decide (Mo.bey e.bad k = []))
def spn : Span → List Pr
  | none => []
  | some p => [p]
def thenE (x y : Ends) : Ends := ⟨Mo.sm x.good y.good, Mo.un x.bad (Mo.sm x.good y.bad), x.never || (!decide (x.good = []) && y.never)⟩
def fallE (n : Option Int) (x y : Ends) : Ends := match n with
  | none => x
  | some k => ⟨Mo.un x.good (Mo.sm (Mo.mov x.bad k) y.good), Mo.sm (Mo.mov x.bad k) y.bad, x.never || (!decide (x.bad = []) && y.never)⟩
def tmoE (n : Option Int) (x : Ends) : Ends := match n with
  | none => x
  | some k => ⟨upt x.good k, if x.late k then Mo.un (upt x.bad k) [(k, k)] else upt x.bad k, false⟩
def upN (l : List Pr) : Option Int → Option (List Pr)
  | none => none
  | some t => some (upt l t)
def raceE (n : Option Int) (x y : Ends) : Option Ends := match n with
  | none => some x
  | some k => if x.late k then
      (if y.never then some (x.good, x.bad) else (gst (Mo.un (Mo.mov y.good k) (Mo.mov y.bad k))).map fun t => (upt x.good t, upt x.bad t)).bind fun a =>
      (if x.never then some (Mo.mov y.good k, Mo.mov y.bad k) else (gst (Mo.un x.good x.bad)).map fun t => (upt (Mo.mov y.good k) (t - 1), upt (Mo.mov y.bad k) (t - 1))).bind fun b =>
      some ⟨Mo.un a.1 b.1, Mo.un a.2 b.2, x.never && y.never⟩
    else some x
def lateE (k : Int) (x y : Ends) : Option Ends :=
  (if Mo.mov y.bad k = [] ∧ y.never = false then upN x.good (gst (Mo.mov y.good k)) else some x.good).bind fun a =>
  (if x.bad = [] ∧ x.never = false then upN (Mo.mov y.good k) (gst x.good) else some (Mo.mov y.good k)).bind fun b =>
  some ⟨Mo.un a b, Mo.mxm x.bad (Mo.mov y.bad k), (!decide (x.bad = []) && y.never) || (x.never && (!decide (Mo.mov y.bad k = []) || y.never))⟩
end
end Cp
/-! Pf: the endings of a policy, together. -/
namespace Cp
open PySem L2
open Mo (Pr)
section
variable {st : Sto} {P : Rv → Sto → Prop} {l m : List Pr} {k : Int}
def hedgeE (n : Option Int) (x y : Ends) : Option Ends := match n with
  | none => some x
  | some k => if x.late k then
      (lateE k ⟨Mo.bey x.good k, Mo.bey x.bad k, x.never⟩ y).map fun m => ⟨Mo.un (Mo.un (upt x.good k) (Mo.sm (upt x.bad k) y.good)) m.good, Mo.un (Mo.sm (upt x.bad k) y.bad) m.bad, (!decide (upt x.bad k = []) && y.never) || m.never⟩
    else some ⟨Mo.un (upt x.good k) (Mo.sm (upt x.bad k) y.good), Mo.sm (upt x.bad k) y.bad, !decide (upt x.bad k = []) && y.never⟩
@[simp] theorem gIsN_int (k : Int) : gIsN (.int k) .none = some false := rfl
def decE (x y : Ends) : Option (List Pr) := if y.good ≠ [] ∨ y.never = true ∨ x.bad = [] then some x.bad else upN x.bad (gst y.bad)
def bothE (x y : Ends) : Option Ends := (decE x y).bind fun a => (decE y x).bind fun b => some ⟨Mo.mxm x.good y.good, Mo.un a b, (x.never && (!decide (y.good = []) || y.never)) || (y.never && (!decide (x.good = []) || x.never))⟩
end
end Cp
/-! Pn: retries' endings. -/
namespace Cp
open PySem L2
open Mo (Pr)
section
variable {st : Sto} {P : Rv → Sto → Prop} {l m : List Pr} {k : Int}
/-! ### retries -/
def retS (x : Ends) (ps : List Int) : Nat → List Pr × List Pr
  | 0 => ([(0, 0)], [])
  | i + 1 => let s := retS x ps i
    (match ps[i]? with
    | some k => Mo.mov (Mo.sm s.1 x.bad) k
    | none => s.1, Mo.un s.2 (Mo.sm s.1 x.good))
def retE (x : Ends) (ps : List Int) (i : Nat) : Ends := ⟨Mo.un (retS x ps i).2 (Mo.sm (retS x ps i).1 x.good), Mo.sm (retS x ps i).1 x.bad, x.never⟩
end
end Cp
/-! Pj: the endings of a policy, joined. -/
namespace Cp
open PySem L2
open Mo (Pr)
section
variable {st : Sto} {P : Rv → Sto → Prop} {l m : List Pr} {k : Int}
@[simp] theorem W_mFns {E : Er → Sto → Prop} {ρ : En} {Q : Rv → Sto → Prop} (tbl : List (Str × Str)) : WVe E (mFns tbl ρ st) Q = Q (.o (.fns tbl)) st := rfl
def Pol.join : Pol → List Ends → Option Ends
  | .call _ g b h, [] => some ⟨spn g, spn b, h⟩
  | .wait n, [] => some ⟨[(n, n)], [], false⟩
  | .two .thn _ _, [x, y] => some (thenE x y)
  | .two .both _ _, [x, y] => bothE x y
  | .num .fall n _ _, [x, y] => some (fallE n x y)
  | .num .race n _ _, [x, y] => raceE n x y
  | .num .hedge n _ _, [x, y] => hedgeE n x y
  | .retry ps _, [x] => if (List.range (ps.length + 1)).all fun i => (chk (retE x ps i)).isSome then some (retE x ps ps.length) else none
  | .tmo n _, [x] => some (tmoE n x)
  | _, _ => none
end
end Cp
/-! Pi: the endings of a policy, whole. -/
namespace Cp
open PySem L2
open Mo (Pr)
def Pol.ends : Pol → Option Ends
  | .call l g b h => ((Pol.call l g b h).join []).bind chk
  | .wait n => ((Pol.wait n).join []).bind chk
  | .two k a b => a.ends.bind fun x => b.ends.bind fun y => ((Pol.two k a b).join [x, y]).bind chk
  | .num k n a b => a.ends.bind fun x => b.ends.bind fun y => ((Pol.num k n a b).join [x, y]).bind chk
  | .retry ps a => a.ends.bind fun x => ((Pol.retry ps a).join [x]).bind chk
  | .tmo n a => a.ends.bind fun x => ((Pol.tmo n a).join [x]).bind chk
/-! ### small sets -/
end Cp
/-! Rn4: the law's own run of a policy. -/
namespace Cp
open PySem L2
end Cp
/-! Rn5: the law's own run of a policy, whole. -/
namespace Cp
open PySem L2
end Cp
/-! Rn6: behaviours: in order, of the right form. -/
namespace Cp
open PySem L2
/-! ### the order of keys -/
def kLt (a b : Ky) : Bool := PySem.W.dataLt (kyD a) (kyD b)
/-! ### the pairs of a dict, in order -/
end Cp
/-! Rn7: behaviours that suit, run. -/
namespace Cp
open PySem L2
/-! ### dicts of answers -/
/-! ### of the right form -/
def KyB (k : Ky) : Prop := IsLab k.1 ∧ k.2.length ≤ 20 ∧ ∀ x ∈ k.2, 0 ≤ x
def NdB (e : Nd) : Prop := ∀ p, e = some p → 0 ≤ p.1
structure BhOk (bs : List (Ky × Nd)) : Prop where
  len : bs.length ≤ 1000
  ok : ∀ b ∈ bs, KyB b.1 ∧ NdB b.2
  lt : bs.Pairwise fun a b => kLt a.1 b.1 = true
section
variable {st : Sto} {E : Er → Sto → Prop} {P : Rv → Sto → Prop} {i : Nat}
theorem W_iZpE {mas : En → Sto → Res (List Vl)} {ρ : En} {Q : Src → Sto → Prop} : WVe E (iZp mas ρ st) Q = WVe E (mas ρ st) fun xs s => WO (srcZp (xs.map tpD)) fun dg => Q dg s := by
  unfold iZp; rw [WV_bind]
  congr 1; funext xs s; rw [WV_okO]
/-! ### what calls allow -/
theorem BhOk.nd {bs : List (Ky × Nd)} (h : BhOk bs) : (bs.map (·.1)).Nodup := by
  refine List.pairwise_map.mpr (h.lt.imp fun {a b} hab e => ?_)
  rw [e] at hab
  unfold kLt PySem.W.dataLt at hab
  rw [PyProof.Rows.lex_irrefl] at hab
  cases hab
end
end Cp
/-! Rn8: the answers of calls. -/
namespace Cp
open PySem L2
end Cp
/-! Rn9: plain facts of keys, calls and endings. -/
namespace Cp
open PySem L2
/-! ### endings under answers that agree -/
/-! ### endings are bounded -/
def NdLe (B : Int) (e : Nd) : Prop := ∀ p, e = some p → 0 ≤ p.1 ∧ p.1 ≤ B
theorem NdLe.no {B : Int} : NdLe B none := fun p e => by cases e
theorem NdLe.of {B x : Int} {o : Bool} (h : NdLe B (some (x, o))) : 0 ≤ x ∧ x ≤ B := h _ rfl
theorem NdLe.mono {B C : Int} {e : Nd} (h : NdLe B e) (hc : B ≤ C) : NdLe C e := fun p q => ⟨(h p q).1, Int.le_trans (h p q).2 hc⟩
end Cp
/-! Wm: for each ending of a policy with two parts some endings of the parts lead to it. -/
namespace Cp
open PySem L2
open Mo (Pr)
/-! ### sets of stretches: least, greatest, cut -/
/-! ### endings that are possible -/
def Ends.In (E : Ends) : Nd → Prop
  | none => E.never = true
  | some (t, true) => Mo.pts E.good t
  | some (t, false) => Mo.pts E.bad t
def Ends.w (E : Ends) : Bool → List Pr
  | true => E.good
  | false => E.bad
/-- the endings of a part that may decide -/
def opL (o : Option Int) (b : Bool) : List Nd := match o with
  | some t => [some (t, b)]
  | none => []
noncomputable def inS (l : List Pr) (m : Int) : Bool := l.any fun p => decide (p.1 ≤ m) && decide (m ≤ p.2)
/-- a moment that is among some: no negative one is -/
noncomputable def conB (l : List Pr) (m : Int) : Bool := decide (0 ≤ m) && inS l m
noncomputable def dec1 (l : List Pr) (b : Bool) (m n : Int) : List Nd := (if conB l m then [some (m, b)] else []) ++ (opL (lst l) b ++ (opL (gst l) b ++ opL (lst (Mo.bey l n)) b))
noncomputable def decN (E : Ends) (m n : Int) : List Nd := dec1 E.good true m n ++ (dec1 E.bad false m n ++ if E.never then [none] else [])
/-! ### two moments with a sum -/
def spl1 (p : Pr) (t : Int) : List Pr → Option (Int × Int)
  | [] => none
  | q :: r => if Mo.mx p.1 (t - q.2) ≤ Mo.mn p.2 (t - q.1) then some (Mo.mx p.1 (t - q.2), t - Mo.mx p.1 (t - q.2)) else spl1 p t r
def splN (t : Int) (m : List Pr) : List Pr → Option (Int × Int)
  | [] => none
  | p :: r => match spl1 p t m with
    | some x => some x
    | none => splN t m r
end Cp
/-! Wj: which endings a policy has, told by those of its parts. -/
namespace Cp
open PySem L2
open Mo (Pr)
/-! ### races -/
/-! ### hedges -/
/-! ### both -/
/-! ### one behind the other, timeouts -/
end Cp
/-! Wx: the pairs of endings that are tried lead to all endings. -/
namespace Cp
open PySem L2
open Mo (Pr)
def momN : Nd → Int
  | none => 0
  | some p => p.1
/-- pairs whose moments add up -/
def splE (l : List Pr) (wd : Bool) (pause : Int) (w : Nd) (B : Ends) : List (Nd × Nd) := match w with
  | none => []
  | some (t, o) => match splN (t - pause) (B.w o) l with
    | some x => [(some (x.1, wd), some (x.2, o))]
    | none => []
/-- a kind with two parts, and its number -/
inductive Jn where
  | two (k : Two)
  | num (k : Num) (n : Option Int)
def Jn.nbr : Jn → Int
  | .two _ => 0
  | .num _ n => n.getD 0
def Jn.join : Jn → Ends → Ends → Option Ends
  | .two .thn, A, B => some (thenE A B)
  | .two .both, A, B => bothE A B
  | .num .fall n, A, B => some (fallE n A B)
  | .num .race n, A, B => raceE n A B
  | .num .hedge n, A, B => hedgeE n A B
def Jn.bef : Jn → Nd → Ends → Ends → List (Nd × Nd)
  | .two .thn, w, A, B => splE A.good true 0 w B
  | .num .fall (some n), w, A, B => splE A.bad false n w B
  | .num .hedge (some n), w, A, B => splE (upt A.bad n) false 0 w B
  | _, _, _, _ => []
noncomputable def Jn.cand (j : Jn) (w : Nd) (A B : Ends) : List (Nd × Nd) :=
  (decN A (momN w) j.nbr).flatMap fun a => (decN B (momN w - j.nbr) 0).map (fun b => (a, b)) ++ (decN B (momN w) 0).map (fun b => (a, b))
noncomputable def Jn.pairs (j : Jn) (w : Nd) (A B : Ends) : List (Nd × Nd) := j.bef w A B ++ j.cand w A B
end Cp
/-! Wy: what endings of the parts lead to is an ending of the whole; retries, timeouts. -/
namespace Cp
open PySem L2
open Mo (Pr)
end Cp
/-! Wz: answers that lead to an ending: timeouts, retries, the whole. -/
namespace Cp
open PySem L2
open Mo (Pr)
/-! ### timeouts -/
/-! ### retries -/
abbrev stS (A : Ends) (ps : List Int) (i : Nat) : List Pr := (retS A ps i).1
theorem st0 {A : Ends} {ps : List Int} {x : Int} : Mo.pts (stS A ps 0) x ↔ x = 0 := by
  show Mo.pts [((0, 0) : Pr)] x ↔ _
  constructor
  · rintro ⟨p, hp, h1, h2⟩
    have : p = (0, 0) := by simpa using hp
    subst this
    have h1 : (0 : Int) ≤ x := h1
    have h2 : x ≤ 0 := h2
    omega
  · rintro rfl
    exact ⟨(0, 0), by simp, Int.le_refl _, Int.le_refl _⟩
end Cp
/-! Wc: answers for all keys that lead to an ending. -/
namespace Cp
open PySem L2
open Mo (Pr)
def spO (g : Span) : Prop := ∀ p, g = some p → 0 ≤ p.1 ∧ p.1 ≤ p.2
def nuO (n : Option Int) : Prop := ∀ k, n = some k → 0 ≤ k
/-- numbers from 0 on, spans that are some -/
def Pol.Ok0 : Pol → Prop
  | .call _ g b h => spO g ∧ spO b ∧ (h = true ∨ g ≠ none ∨ b ≠ none)
  | .wait n => 0 ≤ n
  | .two _ a b => a.Ok0 ∧ b.Ok0
  | .num _ n a b => nuO n ∧ a.Ok0 ∧ b.Ok0
  | .retry ps a => (∀ x ∈ ps, 0 ≤ x) ∧ a.Ok0
  | .tmo n a => nuO n ∧ a.Ok0
/-! ### the answers -/
noncomputable def Pol.E (p : Pol) : Ends := p.ends.getD ⟨[], [], false⟩
end Cp
/-! Wt: endings that are not far have few spans. -/
namespace Cp
open PySem L2
open Mo (Pr)
/-! ### the joins answer -/
/-! ### how late -/
def topO (g : Span) : Int := match g with
  | some p => p.2
  | none => 0
theorem sum_nn : ∀ {ps : List Int}, (∀ x ∈ ps, 0 ≤ x) → 0 ≤ ps.sum
  | [], _ => Int.le_refl _
  | p :: ps, h => by
    have := h p (List.mem_cons_self ..)
    have := sum_nn (ps := ps) fun x hx => h x (List.mem_cons_of_mem _ hx)
    rw [List.sum_cons]; omega
end Cp
/-! Wre: endings, or TooManySpans. -/
namespace Cp
open PySem L2
open Mo (Pr)
section
variable {st : Sto} {E : Er → Sto → Prop} {ρ : En}
theorem WVe_any {α : Type} {r : Res α} {P : α → Sto → Prop} (h : WVe noE r P) : WVe E r P := by
  cases r with
  | ok a s => exact h
  | er e s => exact False.elim h
  | no => exact h
theorem lcGoE_by {g : Gm} {tt : En → Sto → Res Bool} {te : Ev} {gd : Option (Nat × List PyData)} {all : List PyData} {P : List PyData → Sto → Prop} (I : Nat → Sto → List PyData → Prop) (ds : List PyData) (j : Nat) (acc : List PyData) (h0 : I j st acc) (hg : ∀ i s a, I i s a → Grd gd all s)
    (hs : ∀ (i : Nat) (d : PyData) (s : Sto) (a : List PyData), ds[i]? = some d → I (j + i) s a → WVe noE (g (.d d) ρ s) fun ρ1 s1 => WVe noE (tt ρ1 s1) fun k s2 => if k = true then WVe E (te ρ1 s2) fun r s3 => ∃ y, frz r = .d y ∧ a.length < sizeLine ∧ I (j + i + 1) s3 (a ++ [y]) else I (j + i + 1) s2 a)
    (he : ∀ s a, I (j + ds.length) s a → P a s) : WVe E (lcGoE g tt te gd all ρ ds st acc) P := by
  induction ds generalizing j st acc with
  | nil =>
    unfold lcGoE
    rw [if_pos (hg _ _ _ h0)]
    exact he _ _ h0
  | cons d r ih =>
    unfold lcGoE
    rw [if_pos (hg _ _ _ h0)]
    have h1 := hs 0 d st acc rfl h0
    have next : ∀ s2 a2, I (j + 1) s2 a2 → WVe E (lcGoE g tt te gd all ρ r s2 a2) P := fun s2 a2 h2 => ih (j + 1) a2 h2 (fun i d s a e h => by
      have := hs (i + 1) d s a (by simpa using e) (by rw [show j + (i + 1) = j + 1 + i by omega]; exact h)
      rw [show j + (i + 1) + 1 = j + 1 + i + 1 by omega] at this
      exact this) fun s a h => he s a (by rw [List.length_cons, show j + (r.length + 1) = j + 1 + r.length by omega]; exact h)
    cases q : g (.d d) ρ st with
    | ok ρ1 s1 =>
      rw [q, WV_ok] at h1
      simp only []
      cases q2 : tt ρ1 s1 with
      | ok k s2 =>
        rw [q2, WV_ok] at h1
        cases k with
        | false => simp only [Bool.false_eq_true, if_false] at h1; exact next _ _ h1
        | true =>
          simp only [if_true] at h1
          cases q3 : te ρ1 s2 with
          | ok rr s3 =>
            rw [q3, WV_ok] at h1
            obtain ⟨y, e1, e2, e3⟩ := h1
            have e4 : mV te ρ1 s2 = .ok (.d y) s3 := by unfold mV; rw [q3]; show Res.ok (frz rr) s3 = _; rw [e1]
            simp only [e4, if_pos e2]
            exact next _ _ e3
          | er x s3 =>
            rw [q3] at h1
            have e4 : mV te ρ1 s2 = .er x s3 := by unfold mV; rw [q3]; all_goals rfl
            simp only [e4]
            exact h1
          | no => rw [q3] at h1; exact False.elim h1
      | er x s2 => rw [q2] at h1; exact False.elim h1
      | no => rw [q2] at h1; exact False.elim h1
    | er x s2 => rw [q] at h1; exact False.elim h1
    | no => rw [q] at h1; exact False.elim h1
@[simp] theorem W_mLcE {PE : Rv → Sto → Prop} (mi : En → Sto → Res Src) (g : Gm) (tt : En → Sto → Res Bool) (te : Ev) (vs : List Nat) : WVe E (mLcE mi g tt te vs ρ st) PE = WVe E (mi ρ st) fun dg s => WVe E (lcGoE g tt te dg.2 dg.1 (wipeE ρ vs) dg.1 s []) fun ys s' => PE (.n (.l ys)) s' := by
  unfold mLcE; rw [WV_bind]
  congr 1; funext dg s; rw [WV_bind]; rfl
end
end Cp
/-! Jw: the joint endings, as the package finds them. -/
namespace Cp
open PySem L2
noncomputable def sbJ_Joint___init__ : Sv := (sSeq (sAsg (gFld "Joint" "part" (mN 0)) (mV (mN 1))) (sSeq (sAsg (gFld "Joint" "origins" (mN 0)) (mV (mN 2))) (sAsg (gFld "Joint" "below" (mN 0)) (mV (mN 3)))))
noncomputable def semJ_Joint___init__ : Fs := bodyF 4 4 sbJ_Joint___init__
noncomputable def sbJ_ending_key : Sv := (sRet (eIf (mCmp gIsN (mN 0) (mK .none)) (mTup (aCons (mV (mK (.int 1))) (aCons (mV (mK (.int 0))) (aCons (mV (mK (.int 0))) aNil)))) (mTup (aCons (mV (mK (.int 0))) (aCons (mV (mBin fIx (mN 0) (mK (.int 0)))) (aCons (mV (mCal (g1 fInt) (aCons (mV (bV (mCmp gEq (mBin fIx (mN 0) (mK (.int 1))) (mK (.str "ok"))))) aNil))) aNil))))))
noncomputable def semJ_ending_key : Fs := bodyF 1 1 sbJ_ending_key
noncomputable def sbJ_pair_key : Sv := (sRet (mTup (aCons (mV (mCall semJ_ending_key (aCons (mV (mBin fIx (mN 0) (mK (.int 0)))) aNil))) (aCons (mV (mCall semJ_ending_key (aCons (mV (mBin fIx (mN 0) (mK (.int 1)))) aNil))) aNil))))
noncomputable def semJ_pair_key : Fs := bodyF 1 1 sbJ_pair_key
noncomputable def sbJ_check_count : Sv := (sIf (mCmp (gI fun i j => decide (j < i)) (mN 0) (mK (.int 200))) (sRaise "TooManyEndings") sNil)
noncomputable def semJ_check_count : Fs := bodyF 1 1 sbJ_check_count
noncomputable def sbJ_responses_of : Sv := (sSeq (sAsg (gTp 5 (gCons9 (gNm 1) (gCons9 (gNm 2) (gCons9 (gNm 3) (gCons9 (gNm 4) (gCons9 (gNm 5) gNil9)))))) (mV (mN 0))) (sSeq (sAsg (gNm 6) (mV (mLc (iOf (mTup (aCons (mV (mTup (aCons (mV (mN 3)) (aCons (mV (mK (.str "ok"))) aNil)))) (aCons (mV (mTup (aCons (mV (mN 4)) (aCons (mV (mK (.str "fail"))) aNil)))) aNil)))) (gTp 2 (gCons9 (gNm 8) (gCons9 (gNm 9) gNil9))) (mCmp gNotN (mN 8) (mK .none)) (mTup (aCons (mV (mN 8)) (aCons (mV (mN 9)) aNil))) [8, 9]))) (sSeq (sExp (mCall semJ_check_count (aCons (mV (mBin fAdd (mCal (g1 fSum) (aCons (mV (mLc (iOf (mN 6)) (gTp 2 (gCons9 (gNm 8) (gCons9 (gNm 9) gNil9))) ttY (mBin fAdd (mBin (fI (fun _ _ => true) fun i j => i - j) (mBin fIx (mN 8) (mK (.int 1))) (mBin fIx (mN 8) (mK (.int 0)))) (mK (.int 1))) [8, 9])) aNil)) (mCal (g1 fInt) (aCons (mV (mN 5)) aNil)))) aNil))) (sSeq (sAsg (gNm 7) (mVc (mBin fMulA (mLst (aCons (mV (mK .none)) aNil)) (mCal (g1 fInt) (aCons (mV (mN 5)) aNil))))) (sSeq (sFor (iOf (mN 6)) (gTp 2 (gCons9 (gNm 8) (gCons9 (gNm 9) gNil9))) (sExp (mExt (mN 7) (mLc (iRg2 (aCons (mV (mBin fIx (mN 8) (mK (.int 0)))) (aCons (mV (mBin fAdd (mBin fIx (mN 8) (mK (.int 1))) (mK (.int 1)))) aNil))) (gNm 10) ttY (mTup (aCons (mV (mN 10)) (aCons (mV (mN 9)) aNil))) [10])))) (sRet (mN 7)))))))
noncomputable def semJ_responses_of : Fs := bodyF 11 1 sbJ_responses_of
noncomputable def sbJ_after_attempt : Sv := (sSeq (sIf (bAnd (mCmp (gI fun i j => decide (i < j)) (mN 1) (mCal (gLen) (aCons (mV (mN 0)) aNil))) (mTru (mCall semR_is_failure (aCons (mV (mN 2)) aNil)))) (sRet (mCall semR_later (aCons (mV (mN 3)) (aCons (mV (mBin fAdd (mBin fIx (mN 2) (mK (.int 0))) (mBin fIx (mN 0) (mN 1)))) aNil)))) sNil) (sRet (mN 2)))
noncomputable def semJ_after_attempt : Fs := bodyF 4 4 sbJ_after_attempt
noncomputable def sbJ_joint_attempts : Sv := (sSeq (sAsg (gNm 3) (mV (mDcG (iOf (mN 2)) (gNm 6) ttY (mN 6) (mTup (aCons (mV (mN 6)) aNil)) [6]))) (sSeq (sFor (iRg1 (aCons (mV (mCal (gII (fun i j => if j > i then j else i)) (aCons (mV (mCal (gLen) (aCons (mV (mBin fIx (mN 0) (mK (.int 1)))) aNil))) (aCons (mV (mCal (gLen) (aCons (mV (mBin fIx (mN 1) (mK (.int 1)))) aNil))) aNil)))) aNil)) (gNm 4) (sSeq (sAsg (gNm 5) (mVc mD0)) (sSeq (sFor (iIt (mN 3)) (gTp 2 (gCons9 (gNm 6) (gCons9 (gNm 7) gNil9))) (sFor (iOf (mN 2)) (gNm 8) (sSeq (sAsg (gNm 9) (mV (mCall semJ_after_attempt (aCons (mV (mBin fIx (mN 0) (mK (.int 1)))) (aCons (mV (mN 4)) (aCons (mV (mBin fIx (mN 6) (mK (.int 0)))) (aCons (mV (mBin fIx (mN 8) (mK (.int 0)))) aNil))))))) (sExp (mSetd (mN 5) (mTup (aCons (mV (mN 9)) (aCons (mV (mCall semJ_after_attempt (aCons (mV (mBin fIx (mN 1) (mK (.int 1)))) (aCons (mV (mN 4)) (aCons (mV (mBin fIx (mN 6) (mK (.int 1)))) (aCons (mV (mBin fIx (mN 8) (mK (.int 1)))) aNil)))))) aNil))) (mBin fAdd (mN 7) (mTup (aCons (mV (mN 8)) aNil)))))))) (sSeq (sExp (mCall semJ_check_count (aCons (mV (mCal (g1 fLenG) (aCons (mV (mN 5)) aNil))) aNil))) (sAsg (gNm 3) (mVzM (mN 5))))))) (sRet (mN 3))))
noncomputable def semJ_joint_attempts : Fs := bodyF 10 3 sbJ_joint_attempts
noncomputable def sbJ_joint_origins : Sv := (sSeq (sIf (mCmp gEq (mBin fIx (mN 0) (mK (.int 0))) (mK (.str "call"))) (sRet (mDcG (iOf (mCall semJ_responses_of (aCons (mV (mN 0)) aNil))) (gNm 8) ttY (mTup (aCons (mV (mN 8)) (aCons (mV (mN 8)) aNil))) (mTup aNil) [8])) sNil) (sSeq (sIf (mCmp gEq (mBin fIx (mN 0) (mK (.int 0))) (mK (.str "wait"))) (sRet (mDg1 (mTup (aCons (mV (mTup (aCons (mV (mBin fIx (mN 0) (mK (.int 1)))) (aCons (mV (mK (.str "ok"))) aNil)))) (aCons (mV (mTup (aCons (mV (mBin fIx (mN 1) (mK (.int 1)))) (aCons (mV (mK (.str "ok"))) aNil)))) aNil))) (mTup aNil))) sNil) (sSeq (sAsg (gNm 3) (mV (mCal (g1 fListK) (aCons (mV (mFldD "Joint" "origins" (mBin fIx (mN 2) (mK (.int 0))))) aNil)))) (sSeq (sIf (mCmp gEq (mBin fIx (mN 0) (mK (.int 0))) (mK (.str "retry"))) (sRet (mCall semJ_joint_attempts (aCons (mV (mN 0)) (aCons (mV (mN 1)) (aCons (mV (mN 3)) aNil))))) sNil) (sSeq (sIf (mCmp gEq (mBin fIx (mN 0) (mK (.int 0))) (mK (.str "timeout"))) (sRet (mDcG (iOf (mN 3)) (gNm 9) ttY (mTup (aCons (mV (mCall semR_timed_out (aCons (mV (mBin fIx (mN 0) (mK (.int 1)))) (aCons (mV (mBin fIx (mN 9) (mK (.int 0)))) aNil)))) (aCons (mV (mCall semR_timed_out (aCons (mV (mBin fIx (mN 1) (mK (.int 1)))) (aCons (mV (mBin fIx (mN 9) (mK (.int 1)))) aNil)))) aNil))) (mTup (aCons (mV (mN 9)) aNil)) [9])) sNil) (sSeq (sAsg (gNm 4) (mVc mD0)) (sSeq (sFor (iOf (mN 3)) (gNm 5) (sFor (iKd (mFldD "Joint" "origins" (mBin fIx (mN 2) (mK (.int 1))))) (gNm 6) (sSeq (sAsg (gNm 7) (mV (mCall semR_combined (aCons (mV (mN 0)) (aCons (mV (mBin fIx (mN 5) (mK (.int 0)))) (aCons (mV (mBin fIx (mN 6) (mK (.int 0)))) aNil)))))) (sExp (mSetd (mN 4) (mTup (aCons (mV (mN 7)) (aCons (mV (mCall semR_combined (aCons (mV (mN 1)) (aCons (mV (mBin fIx (mN 5) (mK (.int 1)))) (aCons (mV (mBin fIx (mN 6) (mK (.int 1)))) aNil))))) aNil))) (mTup (aCons (mV (mN 5)) (aCons (mV (mN 6)) aNil)))))))) (sRet (mN 4)))))))))
noncomputable def semJ_joint_origins : Fs := bodyF 10 3 sbJ_joint_origins
noncomputable def sbJ_joint_of (sem : Fs) : Sv := (sSeq (sAsg (gNm 2) (mV (mLcE (iZp (aCons (mV (mCall semP_inner (aCons (mV (mN 0)) aNil))) (aCons (mV (mCall semP_inner (aCons (mV (mN 1)) aNil))) aNil))) (gTp 2 (gCons9 (gNm 4) (gCons9 (gNm 5) gNil9))) ttY (mCall sem (aCons (mV (mN 4)) (aCons (mV (mN 5)) aNil))) [4, 5]))) (sSeq (sAsg (gNm 3) (mV (mCall semJ_joint_origins (aCons (mV (mN 0)) (aCons (mV (mN 1)) (aCons (mV (mN 2)) aNil)))))) (sSeq (sExp (mCall semJ_check_count (aCons (mV (mCal (g1 fLenG) (aCons (mV (mN 3)) aNil))) aNil))) (sRet (mMakeD "Joint" semJ_Joint___init__ (aCons (mV (mN 0)) (aCons (mV (mN 3)) (aCons (mV (mN 2)) aNil))))))))
noncomputable def semJ_joint_of : Nat → Fs
  | 0 => fun _ _ => .no
  | n + 1 => bodyF 6 2 (sbJ_joint_of (semJ_joint_of n))
noncomputable def sbJ_joint_of_policies : Sv := (sSeq (sIf (bNot (mTru (mCall semS_same_form (aCons (mV (mN 0)) (aCons (mV (mN 1)) aNil))))) (sRaise "DifferentForms") sNil) (sRet (mCall (semJ_joint_of 12) (aCons (mV (mN 0)) (aCons (mV (mN 1)) aNil)))))
noncomputable def semJ_joint_of_policies : Fs := bodyF 2 2 sbJ_joint_of_policies
noncomputable def sbJ_joint_endings : Sv := (sRet (mCal (g1 fTuple) (aCons (mV (mSrtKD semJ_pair_key (mFldD "Joint" "origins" (mCall semJ_joint_of_policies (aCons (mV (mN 0)) (aCons (mV (mN 1)) aNil)))))) aNil)))
noncomputable def semJ_joint_endings : Fs := bodyF 2 2 sbJ_joint_endings
end Cp
/-! Jw2: what the small functions find; dicts made pair by pair. -/
namespace Cp.Jt
open PySem L2 Cp
def TME : Er := ⟨Str.ofString "TooManyEndings", none⟩
section
variable {st : Sto} {P : Rv → Sto → Prop} {E : Er → Sto → Prop}
theorem w_check (n : Int) (h : n ≤ 200 → P (.d .none) st) (he : 200 < n → E TME st) : WVe E (semJ_check_count [.d (.int n)] st) P := by
  unfold semJ_check_count sbJ_check_count
  rw [W_body]
  refine ⟨rfl, ?_⟩
  by_cases q : 200 < n
  · simp [q]
    exact he q
  · simp [q]
    exact h (by omega)
theorem W_isf_n : WVe E (semR_is_failure [.d .none] st) P = P (.d (.bool false)) st := W_is_failure (e := none)
theorem W_isf_0 (x : Int) : WVe E (semR_is_failure [.d (.tuple [.int x, .str (Str.ofString "fail")])] st) P = P (.d (.bool true)) st := W_is_failure (e := some (x, false))
theorem W_isf_1 (x : Int) : WVe E (semR_is_failure [.d (.tuple [.int x, .str (Str.ofString "ok")])] st) P = P (.d (.bool false)) st := W_is_failure (e := some (x, true))
theorem w_after {ps : List Int} {t : Nat} {e m : Nd} (h : P (.d (ndD (aft ps t e m))) st) : WVe E (semJ_after_attempt [.d (.tuple (ps.map PyData.int)), .d (.int (t : Int)), .d (ndD e), .d (ndD m)] st) P := by
  unfold semJ_after_attempt sbJ_after_attempt
  rw [W_body]
  refine ⟨rfl, ?_⟩
  by_cases hl : t < ps.length
  · have hg : ps[t]? = some ps[t] := List.getElem?_eq_getElem hl
    have hi : L2.atI (ps.map PyData.int) (t : Int) = some (.int ps[t]) := by rw [atI_at (k := t) rfl (by simpa using hl), List.getElem?_map, hg]; rfl
    rcases e with _ | ⟨x, _ | _⟩
    · have e2 : aft ps t none m = none := by simp [aft, hg]
      rw [e2] at h
      simp [hl, W_isf_n]
      exact h
    · have e2 : aft ps t (some (x, false)) m = lat m (x + ps[t]) := by simp [aft, hg]
      rw [e2] at h
      simp [hl, W_isf_0, hi]
      exact h
    · have e2 : aft ps t (some (x, true)) m = some (x, true) := by simp [aft, hg]
      rw [e2] at h
      simp [hl, W_isf_1]
      exact h
  · have hg : ps[t]? = none := List.getElem?_eq_none (by omega)
    have e2 : aft ps t e m = e := by unfold aft; rw [hg]
    rw [e2] at h
    simp [hl]
    exact h
/-- a comprehension that puts pair by pair -/
theorem dc_put {ρ : En} {g : Gm} {tk te : Ev} {all : List PyData} {Q : List (PyData × PyData) → Sto → Prop} {α : Type} (D : α → PyData) (K : α → Np) (V : α → List Np) (xs : List α)
    (hs : ∀ x ∈ xs, WVe noE (g (.d (D x)) ρ st) fun ρ1 s1 => WVe noE (tk ρ1 s1) fun r3 s3 => WVe noE (te ρ1 s3) fun r4 s4 => frz r3 = .d (npD (K x)) ∧ frz r4 = .d (ogV (V x)) ∧ s4 = st)
    (hl : xs.length ≤ 100000) (h : Q (ogD (xs.foldl (fun o x => put o (K x) (V x)) [])) st) : WVe E (dcGo g ttY tk te none all ρ (xs.map D) st []) Q := by
  have hlen : ∀ (l : List α) (o : Og), (l.foldl (fun o x => put o (K x) (V x)) o).length ≤ o.length + l.length := by
    intro l
    induction l with
    | nil => intro o; exact Nat.le_refl _
    | cons x l ih =>
      intro o
      have h1 := ih (put o (K x) (V x))
      have h2 := (put_len o (K x) (V x)).1
      rw [List.foldl_cons, List.length_cons]
      omega
  refine dcGo_by (I := fun i s a => s = st ∧ a = ogD ((xs.take i).foldl (fun o x => put o (K x) (V x)) [])) _ 0 [] ⟨rfl, rfl⟩ (fun _ _ _ _ => trivial) ?_ ?_
  · rintro i d s a hd ⟨rfl, rfl⟩
    rw [List.getElem?_map] at hd
    obtain ⟨x, hx, rfl⟩ := Option.map_eq_some_iff.mp hd
    rw [Nat.zero_add]
    have hi : i < xs.length := (List.getElem?_eq_some_iff.mp hx).1
    refine WV_mono (hs x (List.mem_of_getElem? hx)) fun ρ1 s1 h1 => ?_
    rw [W_ttY, if_pos rfl]
    refine WV_mono h1 fun r3 s3 h3 => WV_mono h3 fun r4 s4 h4 => ?_
    obtain ⟨e3, e4, rfl⟩ := h4
    refine ⟨_, _, e3, e4, ⟨okK_og _ _, ?_⟩, rfl, ?_⟩
    · have h2 := hlen (xs.take i) []
      have h3 : (ogD ((xs.take i).foldl (fun o x => put o (K x) (V x)) [])).length = ((xs.take i).foldl (fun o x => put o (K x) (V x)) []).length := List.length_map ..
      rw [h3, szl]
      rw [List.length_take, List.length_nil] at h2
      omega
    · rw [putD_og, List.take_succ, hx, List.foldl_append]
      rfl
  · rintro s a ⟨rfl, rfl⟩
    rw [Nat.zero_add, List.length_map, List.take_length]
    exact h
end
end Cp.Jt
/-! Jw3: the responses of a call. -/
namespace Cp.Jt
open PySem L2 Cp
section
variable {st : Sto} {P : Rv → Sto → Prop} {E : Er → Sto → Prop} {ρ : En}
theorem rng_nd (o : Bool) (p : Int × Int) : (rngN o (some p)).map ndD = (List.range (p.2 + 1 - p.1).toNat).map fun i : Nat => PyData.tuple [.int (p.1 + (i : Int)), .str (okW o)] := by
  unfold rngN
  rw [List.map_map, show p.2 - p.1 + 1 = p.2 + 1 - p.1 by omega]
  rfl
/-- the moments of a span, with their word -/
theorem lc_rng {g : Gm} {te : Ev} {all : List PyData} {Q : List PyData → Sto → Prop} (o : Bool) (p : Int × Int) (hl : (p.2 + 1 - p.1) ≤ 1000)
    (hs : ∀ x : Int, WVe noE (g (.d (.int x)) ρ st) fun ρ1 s1 => WVe noE (te ρ1 s1) fun r s3 => frz r = .d (.tuple [.int x, .str (okW o)]) ∧ s3 = st) (h : Q ((rngN o (some p)).map ndD) st) : WVe E (lcGo g ttY te none all ρ (rngD p.1 (p.2 + 1)) st []) Q := by
  refine lc_map (fun d => match d with | .int x => .tuple [.int x, .str (okW o)] | d => d) (fun d hd => ?_) ?_ ?_
  · unfold rngD at hd
    obtain ⟨i, _, rfl⟩ := List.mem_map.mp hd
    exact hs _
  · unfold rngD
    rw [List.length_map, List.length_range, szl]
    omega
  · unfold rngD
    rw [List.map_map]
    rw [rng_nd] at h
    exact h
def sps (g b : Span) : List ((Int × Int) × Bool) := (g.toList.map fun p => (p, true)) ++ b.toList.map fun p => (p, false)
def spanD (x : (Int × Int) × Bool) : PyData := .tuple [.tuple [.int x.1.1, .int x.1.2], .str (okW x.2)]
def selS : PyData → Bool
  | .tuple (.none :: _) => false
  | _ => true
theorem sum_nn : ∀ M : List ((Int × Int) × Bool), (∀ y ∈ M, y.1.1 ≤ y.1.2) → 0 ≤ (M.map fun x => x.1.2 - x.1.1 + 1).sum
  | [], _ => by simp
  | z :: M, h => by
    have h1 := sum_nn M fun w hw => h w (List.mem_cons_of_mem _ hw)
    have h2 := h z (List.mem_cons_self ..)
    simp; omega
theorem flat_len {h : Bool} {L : List ((Int × Int) × Bool)} {i : Nat} (hl : L.length ≤ 2) (hw : ∀ x ∈ L, x.1.2 - x.1.1 ≤ 200) : ((if h = true then [PyData.none] else []) ++ ((L.take i).map fun x => (rngN x.2 (some x.1)).map ndD).flatten).length ≤ 1000 := by
  have h1 : ∀ M : List ((Int × Int) × Bool), (∀ x ∈ M, x.1.2 - x.1.1 ≤ 200) → ((M.map fun x => (rngN x.2 (some x.1)).map ndD).flatten).length ≤ M.length * 201 := by
    intro M
    induction M with
    | nil => intro _; simp
    | cons x M ih =>
      intro hM
      have := ih fun y hy => hM y (List.mem_cons_of_mem _ hy)
      have := hM x (List.mem_cons_self ..)
      rw [List.map_cons, List.flatten_cons, List.length_append, List.length_map, List.length_cons]
      have : (rngN x.2 (some x.1)).length = (x.1.2 - x.1.1 + 1).toNat := by unfold rngN; rw [List.length_map, List.length_range]
      omega
  have h2 := h1 (L.take i) fun x hx => hw x (List.mem_of_mem_take hx)
  have h3 : (L.take i).length ≤ 2 := by rw [List.length_take]; omega
  rw [List.length_append]
  have : (if h = true then [PyData.none] else []).length ≤ 1 := by split <;> simp
  omega
theorem w_resp {l : Str} {g b : Span} {h : Bool} (hg : spO g) (hb : spO b) (tg : topO g ≤ 2 ^ 61) (tb : topO b ≤ 2 ^ 61) (h1 : respN g b h ≤ 200 → P (.c st.length) (st ++ [.l ((respL g b h).map ndD)])) (h2 : 200 < respN g b h → E TME st) :
    WVe E (semJ_responses_of [.d (Pol.call l g b h).pd] st) P := by
  unfold semJ_responses_of sbJ_responses_of
  rw [W_body]
  refine ⟨rfl, ?_⟩
  refine seq_cut (fun ρ s => ρ = [some (.d (Pol.call l g b h).pd), some (.d (.str (Str.ofString "call"))), some (.d (.str l)), some (.d (spD g)), some (.d (spD b)), some (.d (.bool h)), none, none, none, none, none] ∧ s = st) (by simp [Pol.pd]) ?_
  rintro ρ s ⟨rfl, rfl⟩
  refine seq_cut (fun ρ s' => ρ = [some (.d (Pol.call l g b h).pd), some (.d (.str (Str.ofString "call"))), some (.d (.str l)), some (.d (spD g)), some (.d (spD b)), some (.d (.bool h)), some (.d (.list ((sps g b).map spanD))), none, none, none, none] ∧ s' = s) ?_ ?_
  · simp [szl]
    refine lc_pick selS id (fun d hd => ?_) (by simp [szl]) ?_
    · simp only [List.mem_cons, List.not_mem_nil, or_false] at hd
      rcases hd with rfl | rfl
      · rcases g with _ | q
        · simp [wipeE, spD, selS]
        · simp [wipeE, spD, selS, szl]
      · rcases b with _ | q
        · simp [wipeE, spD, selS]
        · simp [wipeE, spD, selS, szl]
    · rcases g with _ | q <;> rcases b with _ | q2 <;> simp [List.filter_cons, selS, sps, spanD, spD]
  rintro ρ s' ⟨rfl, rfl⟩
  have hin : ∀ x ∈ sps g b, 0 ≤ x.1.1 ∧ x.1.1 ≤ x.1.2 ∧ x.1.2 ≤ 2 ^ 61 := fun x hx => by
    rcases List.mem_append.mp hx with hx | hx
    · rcases g with _ | q
      · cases hx
      · simp at hx
        subst hx
        exact ⟨(hg _ rfl).1, (hg _ rfl).2, tg⟩
    · rcases b with _ | q
      · cases hx
      · simp at hx
        subst hx
        exact ⟨(hb _ rfl).1, (hb _ rfl).2, tb⟩
  have hsum : ((sps g b).map fun x => x.1.2 - x.1.1 + 1).sum + (if h = true then 1 else 0) = respN g b h := by
    rcases g with _ | q <;> rcases b with _ | q2 <;> simp [sps, respN, widN]
  have hrl : (if h = true then [PyData.none] else []) ++ ((sps g b).map fun x => (rngN x.2 (some x.1)).map ndD).flatten = (respL g b h).map ndD := by
    unfold respL
    rw [List.map_append, List.map_append]
    rcases g with _ | q <;> rcases b with _ | q2 <;> cases h <;> simp [sps, rngN, ndD]
  have hlen : (sps g b).length ≤ 2 := by rcases g with _ | q <;> rcases b with _ | q2 <;> simp [sps]
  generalize sps g b = L at hin hsum hrl hlen ⊢
  refine seq_cut (fun ρ s => (ρ = [some (.d (Pol.call l g b h).pd), some (.d (.str (Str.ofString "call"))), some (.d (.str l)), some (.d (spD g)), some (.d (spD b)), some (.d (.bool h)), some (.d (.list (L.map spanD))), none, none, none, none] ∧ s = s') ∧ respN g b h ≤ 200) ?_ ?_
  · simp
    refine lc_map (fun d => match d with | .tuple [.tuple [.int a, .int b], _] => .int (b - a + 1) | d => d) (fun d hd => ?_) (by rw [List.length_map, szl]; omega) ?_
    · obtain ⟨x, hx, rfl⟩ := List.mem_map.mp hd
      simp [wipeE, spanD]
    · rw [List.map_map]
      have e : ((fun d : PyData => match d with | .tuple [.tuple [.int a, .int b], _] => .int (b - a + 1) | d => d) ∘ spanD) = fun x => PyData.int (x.1.2 - x.1.1 + 1) := by funext x; rfl
      rw [e]
      have e2 : fSum (.list (L.map fun x => PyData.int (x.1.2 - x.1.1 + 1))) = some (.d (.int (L.map fun x => x.1.2 - x.1.1 + 1).sum)) := by
        have := intsD_map (L.map fun x => x.1.2 - x.1.1 + 1)
        rw [List.map_map] at this
        show (intsD (L.map (PyData.int ∘ fun x => x.1.2 - x.1.1 + 1))).map _ = _
        rw [this]; rfl
      rw [e2]
      simp
      rw [hsum]
      refine w_check _ (fun hc => ?_) fun hc => ?_
      · simp
        exact hc
      · rw [List.take_length]; exact h2 hc
  rintro ρ s ⟨⟨rfl, rfl⟩, hc⟩
  have hw : ∀ x ∈ L, x.1.2 - x.1.1 ≤ 200 := fun x hx => by
    have h3 : ∀ (M : List ((Int × Int) × Bool)), (∀ y ∈ M, y.1.1 ≤ y.1.2) → x ∈ M → x.1.2 - x.1.1 + 1 ≤ (M.map fun x => x.1.2 - x.1.1 + 1).sum ∧ 0 ≤ (M.map fun x => x.1.2 - x.1.1 + 1).sum := by
      intro M
      induction M with
      | nil => intro _ h; cases h
      | cons y M ih =>
        intro hM hx
        have hs := sum_nn M fun w hw => hM w (List.mem_cons_of_mem _ hw)
        have hy := hM y (by simp)
        rcases List.mem_cons.mp hx with rfl | hx
        · simp; omega
        · have := (ih (fun w hw => hM w (List.mem_cons_of_mem _ hw)) hx).1
          simp; omega
    have := (h3 L (fun y hy => (hin y hy).2.1) hx).1
    have : (0 : Int) ≤ if h = true then 1 else 0 := by split <;> decide
    omega
  refine seq_cut (fun ρ s' => ρ = [some (.d (Pol.call l g b h).pd), some (.d (.str (Str.ofString "call"))), some (.d (.str l)), some (.d (spD g)), some (.d (spD b)), some (.d (.bool h)), some (.d (.list (L.map spanD))), some (.c s.length), none, none, none] ∧ s' = s ++ [.l (if h = true then [.none] else [])]) ?_ ?_
  · have m0 : fMulA (.list [.none]) (.int 0) = some (.n (.l [])) := rfl
    have m1 : fMulA (.list [.none]) (.int 1) = some (.n (.l [.none])) := rfl
    cases h
    · simp [szl, m0]
    · simp [szl, m1]
  rintro ρ s' ⟨rfl, rfl⟩
  refine seq_cut (fun ρ s' => (∃ a2 b2 c2, ρ = [some (.d (Pol.call l g b h).pd), some (.d (.str (Str.ofString "call"))), some (.d (.str l)), some (.d (spD g)), some (.d (spD b)), some (.d (.bool h)), some (.d (.list (L.map spanD))), some (.c s.length), a2, b2, c2]) ∧ s' = s ++ [.l ((respL g b h).map ndD)]) ?_ ?_
  · simp
    refine forGo_by (I := fun i ρ s' => (∃ a2 b2 c2, ρ = [some (.d (Pol.call l g b h).pd), some (.d (.str (Str.ofString "call"))), some (.d (.str l)), some (.d (spD g)), some (.d (spD b)), some (.d (.bool h)), some (.d (.list (L.map spanD))), some (.c s.length), a2, b2, c2]) ∧ s' = s ++ [.l ((if h = true then [PyData.none] else []) ++ ((L.take i).map fun x => (rngN x.2 (some x.1)).map ndD).flatten)]) _ 0 ⟨⟨_, _, _, rfl⟩, by simp⟩ (fun _ _ _ _ => trivial) ?_ ?_
    · rintro i d ρ s' hd ⟨⟨a2, b2, c2, rfl⟩, rfl⟩
      rw [List.getElem?_map] at hd
      obtain ⟨x, hx, rfl⟩ := Option.map_eq_some_iff.mp hd
      have hm := List.mem_of_getElem? hx
      have h3 := hin x hm
      have h4 := hw x hm
      rw [Nat.zero_add, List.take_succ, hx]
      have hfl := flat_len (h := h) (i := i) hlen hw
      simp [spanD]
      rw [← List.map_take]
      refine ⟨by unfold rOk; simp; omega, lc_rng x.2 x.1 (by omega) (fun y => ?_) ?_⟩
      · simp [wipeE, szl]
      · have hx2 : ((rngN x.2 (some x.1)).map ndD).length ≤ 1000 := by unfold rngN; rw [List.length_map, List.length_map, List.length_range]; omega
        have hf : ∀ xs : List PyData, xs.length ≤ 1000 → fExt xs (.list ((rngN x.2 (some x.1)).map ndD)) = some (xs ++ (rngN x.2 (some x.1)).map ndD) := fun xs hxs => by
          unfold fExt
          simp [szl]
          simp at hx2
          omega
        simp
        rw [← List.map_take, hf _ hfl]
        simp
    · rintro ρ s' ⟨⟨a2, b2, c2, rfl⟩, rfl⟩
      rw [Nat.zero_add, List.length_map, List.take_length, hrl]
      exact ⟨⟨_, _, _, rfl⟩, rfl⟩
  rintro ρ s' ⟨⟨a, b', c, rfl⟩, rfl⟩
  simp
  exact h1 hc
end
end Cp.Jt
/-! Jw4: the joint endings of two parts out of those below. -/
namespace Cp.Jt
open PySem L2 Cp
noncomputable def oB : Sv := (sSeq (sAsg (gNm 7) (mV (mCall semR_combined (aCons (mV (mN 0)) (aCons (mV (mBin fIx (mN 5) (mK (.int 0)))) (aCons (mV (mBin fIx (mN 6) (mK (.int 0)))) aNil)))))) (sExp (mSetd (mN 4) (mTup (aCons (mV (mN 7)) (aCons (mV (mCall semR_combined (aCons (mV (mN 1)) (aCons (mV (mBin fIx (mN 5) (mK (.int 1)))) (aCons (mV (mBin fIx (mN 6) (mK (.int 1)))) aNil))))) aNil))) (mTup (aCons (mV (mN 5)) (aCons (mV (mN 6)) aNil))))))
noncomputable def oI : Sv := (sFor (iKd (mFldD "Joint" "origins" (mBin fIx (mN 2) (mK (.int 1))))) (gNm 6) oB)
noncomputable def oO : Sv := (sFor (iOf (mN 3)) (gNm 5) oI)
noncomputable def oT : Sv := (sSeq (sAsg (gNm 4) (mVc mD0)) (sSeq oO (sRet (mN 4))))
noncomputable def oP : Sv := (sAsg (gNm 3) (mV (mCal (g1 fListK) (aCons (mV (mFldD "Joint" "origins" (mBin fIx (mN 2) (mK (.int 0))))) aNil))))
noncomputable def oM : Sv := (sIf (mCmp gEq (mBin fIx (mN 0) (mK (.int 0))) (mK (.str "timeout"))) (sRet (mDcG (iOf (mN 3)) (gNm 9) ttY (mTup (aCons (mV (mCall semR_timed_out (aCons (mV (mBin fIx (mN 0) (mK (.int 1)))) (aCons (mV (mBin fIx (mN 9) (mK (.int 0)))) aNil)))) (aCons (mV (mCall semR_timed_out (aCons (mV (mBin fIx (mN 1) (mK (.int 1)))) (aCons (mV (mBin fIx (mN 9) (mK (.int 1)))) aNil)))) aNil))) (mTup (aCons (mV (mN 9)) aNil)) [9])) sNil)
noncomputable def oR : Sv := (sIf (mCmp gEq (mBin fIx (mN 0) (mK (.int 0))) (mK (.str "retry"))) (sRet (mCall semJ_joint_attempts (aCons (mV (mN 0)) (aCons (mV (mN 1)) (aCons (mV (mN 3)) aNil))))) sNil)
noncomputable def oC : Sv := (sIf (mCmp gEq (mBin fIx (mN 0) (mK (.int 0))) (mK (.str "call"))) (sRet (mDcG (iOf (mCall semJ_responses_of (aCons (mV (mN 0)) aNil))) (gNm 8) ttY (mTup (aCons (mV (mN 8)) (aCons (mV (mN 8)) aNil))) (mTup aNil) [8])) sNil)
noncomputable def oW : Sv := (sIf (mCmp gEq (mBin fIx (mN 0) (mK (.int 0))) (mK (.str "wait"))) (sRet (mDg1 (mTup (aCons (mV (mTup (aCons (mV (mBin fIx (mN 0) (mK (.int 1)))) (aCons (mV (mK (.str "ok"))) aNil)))) (aCons (mV (mTup (aCons (mV (mBin fIx (mN 1) (mK (.int 1)))) (aCons (mV (mK (.str "ok"))) aNil)))) aNil))) (mTup aNil))) sNil)
theorem or_eq : sbJ_joint_origins = (sSeq oC (sSeq oW (sSeq oP (sSeq oR (sSeq oM oT))))) := rfl
section
variable {st : Sto} {P : Rv → Sto → Prop} {E : Er → Sto → Prop} {ρ : En} {N B C : En → Sto → Prop} {R : Rv → Sto → Prop} {x0 x1 x2 x3 x4 x5 x6 x7 x8 x9 : Option Vl}
theorem fld_og (p : Pol) (o : Og) (bl : List PyData) : fFldD (Str.ofString "Joint") (Str.ofString "origins") (jdD p o bl) = some (.d (.dict (ogD o))) := rfl
theorem kd_og {o : Og} (h : o ≠ []) : kdOf (.d (.dict (ogD o))) = some (ogD o) := by
  show (if gnK (ogD o) = true ∧ ogD o ≠ [] then some (ogD o) else none) = _
  rw [if_pos ⟨gnK_og o, fun e => h (List.map_eq_nil_iff.mp e)⟩]
theorem og_keys (o : Og) : (ogD o).map (·.1) = (keys o).map npD := by
  unfold ogD keys
  rw [List.map_map, List.map_map]; rfl
theorem og_len (o : Og) : (ogD o).length = o.length := List.length_map ..
theorem ix_np0 (x : Np) : fIx (npD x) (.int 0) = some (.d (ndD x.1)) := rfl
theorem ix_np1 (x : Np) : fIx (npD x) (.int 1) = some (.d (ndD x.2)) := rfl
theorem og_notGone (o : Og) : isGone (.m (ogD o)) = false := by
  cases o with
  | nil => rfl
  | cons p o =>
    obtain ⟨⟨a, b⟩, v⟩ := p
    rfl
/-- found.setdefault(..) -/
theorem sd_og (o : Og) (k : Np) (v : List Np) : (match lookD (ogD o) (npD k) with
    | some _ => ogD o = ogD (sd o k v)
    | none => putD (ogD o) (npD k) (ogV v) = ogD (sd o k v)) := by
  obtain ⟨h1, h2⟩ := lookD_has o k
  cases q : has o k with
  | true =>
    obtain ⟨d, e⟩ := h1 q
    rw [e]
    have e2 : sd o k v = o := by unfold sd; rw [if_pos q]
    rw [e2]
  | false =>
    rw [h2 q]
    have e2 : sd o k v = put o k v := by unfold sd put; rw [if_neg (by rw [q]; decide), if_neg (by rw [q]; decide)]
    rw [e2]
    exact putD_og o k v
theorem sdF_len {α : Type} (K : α → Np) (V : α → List Np) : ∀ (l : List α) (o : Og), (l.foldl (fun o x => sd o (K x) (V x)) o).length ≤ o.length + l.length
  | [], o => Nat.le_refl _
  | x :: l, o => by
    have h1 := sdF_len K V l (sd o (K x) (V x))
    have h2 := (sd_len o (K x) (V x)).1
    rw [List.foldl_cons, List.length_cons]
    omega
/-- what combines the endings of a policy's two parts -/
def Comb (pd : PyData) (f : Nd → Nd → Nd) : Prop := ∀ {st : Sto} {P : Rv → Sto → Prop} {E : Er → Sto → Prop} {n : Nat} (hn : n = st.length) (a b : Nd), P (.d (ndD (f a b))) st → WVe E (semR_combined [.d pd, .d (ndD a), .d (ndD b)] st) fun v s => back n v s P
theorem comb_two (k : Two) (p q : Pol) : Comb (Pol.two k p q).pd (twoN k) := fun hn a b h => w_comb_two hn h
theorem comb_num (k : Num) (m : Option Int) (p q : Pol) : Comb (Pol.num k m p q).pd (numN k m) := fun hn a b h => w_comb_num hn h
theorem w_oI {pd qd : PyData} {f g : Nd → Nd → Nd} {x : Np} {o2 o : Og} {p2 : Pol} {b1 : PyData} {bl : List PyData} (hf : Comb pd f) (hg : Comb qd g) (h2 : o2 ≠ []) (hl2 : o2.length ≤ 200) (hlo : o.length ≤ 100000)
    (hN : ∀ a b, N [some (.d pd), some (.d qd), some (.d (.list [b1, jdD p2 o2 bl])), x3, some (.c st.length), some (.d (npD x)), a, b, x8, x9] (st ++ [.m (ogD ((keys o2).foldl (fun o y => sd o (f x.1 y.1, g x.2 y.2) [x, y]) o))])) :
    WSe E (oI [some (.d pd), some (.d qd), some (.d (.list [b1, jdD p2 o2 bl])), x3, some (.c st.length), some (.d (npD x)), x6, x7, x8, x9] (st ++ [.m (ogD o)])) N B C R := by
  unfold oI
  have e1 : L2.atI [b1, jdD p2 o2 bl] 1 = some (jdD p2 o2 bl) := rfl
  simp [e1, fld_og, kd_og h2]
  have hk : List.map Prod.fst (ogD o2) = (keys o2).map npD := og_keys o2
  rw [hk]
  have hkl : (keys o2).length = o2.length := List.length_map ..
  refine forGo_by (I := fun i ρ s => (∃ a b, ρ = [some (.d pd), some (.d qd), some (.d (.list [b1, jdD p2 o2 bl])), x3, some (.c st.length), some (.d (npD x)), a, b, x8, x9]) ∧ s = st ++ [.m (ogD (((keys o2).take i).foldl (fun o y => sd o (f x.1 y.1, g x.2 y.2) [x, y]) o))]) _ 0 ⟨⟨_, _, rfl⟩, rfl⟩ (fun _ _ _ _ => trivial) ?_ ?_
  · rintro i d ρ s hd ⟨⟨a, b, rfl⟩, rfl⟩
    rw [List.getElem?_map] at hd
    obtain ⟨y, hy, rfl⟩ := Option.map_eq_some_iff.mp hd
    have hi : i < (keys o2).length := (List.getElem?_eq_some_iff.mp hy).1
    rw [Nat.zero_add, W_gNm]
    have hlen := sdF_len (fun y : Np => (f x.1 y.1, g x.2 y.2)) (fun y => [x, y]) ((keys o2).take i) o
    rw [List.length_take] at hlen
    rw [List.take_succ, hy, List.foldl_append]
    show WSe E (oB _ _) _ _ _ _
    generalize ((keys o2).take i).foldl (fun o y => sd o (f x.1 y.1, g x.2 y.2) [x, y]) o = o' at hlen
    unfold oB
    simp [ix_np0, ix_np1]
    refine hf (by simp) _ _ ?_
    simp [og_notGone]
    refine ⟨gnK_og o', hg (by simp) _ _ ?_⟩
    simp [szl]
    exact ⟨⟨gnK_og o', gnD_np (_, _), og_notGone o', by rw [og_len]; omega⟩, sd_og o' (f x.1 y.1, g x.2 y.2) [x, y]⟩
  · rintro ρ s ⟨⟨a, b, rfl⟩, rfl⟩
    rw [Nat.zero_add, List.length_map, List.take_length]
    exact hN _ _
theorem twoI_len (f g : Nd → Nd → Nd) (qs : List Np) : ∀ (ps : List Np) (o : Og), (ps.foldl (fun o x => qs.foldl (fun o y => sd o (f x.1 y.1, g x.2 y.2) [x, y]) o) o).length ≤ o.length + ps.length * qs.length
  | [], o => by simp
  | x :: ps, o => by
    have h1 := twoI_len f g qs ps (qs.foldl (fun o y => sd o (f x.1 y.1, g x.2 y.2) [x, y]) o)
    have h2 := sdF_len (fun y : Np => (f x.1 y.1, g x.2 y.2)) (fun y => [x, y]) qs o
    rw [List.foldl_cons, List.length_cons, Nat.succ_mul]
    omega
theorem w_oT {pd qd : PyData} {f g : Nd → Nd → Nd} {ps : List Np} {o2 : Og} {p2 : Pol} {b1 : PyData} {bl : List PyData} (hf : Comb pd f) (hg : Comb qd g) (h2 : o2 ≠ []) (hl2 : o2.length ≤ 200) (hlp : ps.length ≤ 200) {X : Sv} (hX : X = oT)
    (hR : R (.c st.length) (st ++ [.m (ogD (twoO f g ps (keys o2)))])) :
    WSe E (X [some (.d pd), some (.d qd), some (.d (.list [b1, jdD p2 o2 bl])), some (.d (.list (ps.map npD))), x4, x5, x6, x7, x8, x9] st) N B C R := by
  have key := @w_oI
  subst hX
  unfold oT oO
  generalize oI = I at key ⊢
  refine seq_cut (fun ρ s => ρ = [some (.d pd), some (.d qd), some (.d (.list [b1, jdD p2 o2 bl])), some (.d (.list (ps.map npD))), some (.c st.length), x5, x6, x7, x8, x9] ∧ s = st ++ [.m (ogD [])]) ?_ ?_
  · simp [ogD]
  rintro ρ s ⟨rfl, rfl⟩
  have hkl : (keys o2).length = o2.length := List.length_map ..
  refine seq_cut (fun ρ s => (∃ a b c, ρ = [some (.d pd), some (.d qd), some (.d (.list [b1, jdD p2 o2 bl])), some (.d (.list (ps.map npD))), some (.c st.length), a, b, c, x8, x9]) ∧ s = st ++ [.m (ogD (twoO f g ps (keys o2)))]) ?_ ?_
  · simp
    refine forGo_by (I := fun i ρ s => (∃ a b c, ρ = [some (.d pd), some (.d qd), some (.d (.list [b1, jdD p2 o2 bl])), some (.d (.list (ps.map npD))), some (.c st.length), a, b, c, x8, x9]) ∧ s = st ++ [.m (ogD (twoO f g (ps.take i) (keys o2)))]) _ 0 ⟨⟨_, _, _, rfl⟩, rfl⟩ (fun _ _ _ _ => trivial) ?_ ?_
    · rintro i d ρ s hd ⟨⟨a, b, c, rfl⟩, rfl⟩
      rw [List.getElem?_map] at hd
      obtain ⟨x, hx, rfl⟩ := Option.map_eq_some_iff.mp hd
      have hi : i < ps.length := (List.getElem?_eq_some_iff.mp hx).1
      rw [Nat.zero_add, W_gNm]
      have hlen := twoI_len f g (keys o2) (ps.take i) []
      rw [List.length_take, List.length_nil] at hlen
      have hm : min i ps.length * (keys o2).length ≤ 200 * 200 := Nat.mul_le_mul (by omega) (by omega)
      refine key hf hg h2 hl2 (o := twoO f g (ps.take i) (keys o2)) (by unfold twoO; omega) fun a b => ⟨⟨_, _, _, rfl⟩, ?_⟩
      congr 4
      unfold twoO
      rw [List.take_succ, hx, List.foldl_append]
      rfl
    · rintro ρ s ⟨⟨a, b, c, rfl⟩, rfl⟩
      rw [Nat.zero_add, List.length_map, List.take_length]
      exact ⟨⟨_, _, _, rfl⟩, rfl⟩
  rintro ρ s ⟨⟨a, b, c, rfl⟩, rfl⟩
  simp
  exact hR
end
end Cp.Jt
/-! Jw5: the joint endings of two retries. -/
namespace Cp.Jt
open PySem L2 Cp
noncomputable def aB : Sv := (sSeq (sAsg (gNm 9) (mV (mCall semJ_after_attempt (aCons (mV (mBin fIx (mN 0) (mK (.int 1)))) (aCons (mV (mN 4)) (aCons (mV (mBin fIx (mN 6) (mK (.int 0)))) (aCons (mV (mBin fIx (mN 8) (mK (.int 0)))) aNil))))))) (sExp (mSetd (mN 5) (mTup (aCons (mV (mN 9)) (aCons (mV (mCall semJ_after_attempt (aCons (mV (mBin fIx (mN 1) (mK (.int 1)))) (aCons (mV (mN 4)) (aCons (mV (mBin fIx (mN 6) (mK (.int 1)))) (aCons (mV (mBin fIx (mN 8) (mK (.int 1)))) aNil)))))) aNil))) (mBin fAdd (mN 7) (mTup (aCons (mV (mN 8)) aNil))))))
noncomputable def aI : Sv := (sFor (iOf (mN 2)) (gNm 8) aB)
noncomputable def aO : Sv := (sFor (iIt (mN 3)) (gTp 2 (gCons9 (gNm 6) (gCons9 (gNm 7) gNil9))) aI)
noncomputable def aT : Sv := (sSeq (sAsg (gNm 5) (mVc mD0)) (sSeq aO (sSeq (sExp (mCall semJ_check_count (aCons (mV (mCal (g1 fLenG) (aCons (mV (mN 5)) aNil))) aNil))) (sAsg (gNm 3) (mVzM (mN 5))))))
noncomputable def aF : Sv := (sFor (iRg1 (aCons (mV (mCal (gII (fun i j => if j > i then j else i)) (aCons (mV (mCal (gLen) (aCons (mV (mBin fIx (mN 0) (mK (.int 1)))) aNil))) (aCons (mV (mCal (gLen) (aCons (mV (mBin fIx (mN 1) (mK (.int 1)))) aNil))) aNil)))) aNil)) (gNm 4) aT)
theorem at_eq : sbJ_joint_attempts = (sSeq (sAsg (gNm 3) (mV (mDcG (iOf (mN 2)) (gNm 6) ttY (mN 6) (mTup (aCons (mV (mN 6)) aNil)) [6]))) (sSeq aF (sRet (mN 3)))) := rfl
section
variable {st : Sto} {P : Rv → Sto → Prop} {E : Er → Sto → Prop} {ρ : En} {N B C : En → Sto → Prop} {R : Rv → Sto → Prop} {x0 x1 x2 x3 x4 x5 x6 x7 x8 x9 : Option Vl}
theorem ix_ret (us : List Int) (a : Pol) : fIx (Pol.retry us a).pd (.int 1) = some (.d (.tuple (us.map PyData.int))) := rfl
def attI (us vs : List Int) (t : Nat) (e : Np × List Np) (acc : Og) (m : Np) : Og := sd acc (aft us t e.1.1 m.1, aft vs t e.1.2 m.2) (e.2 ++ [m])
theorem w_aI {us vs : List Int} {a b : Pol} {t : Nat} {ps : List Np} {e : Np × List Np} {o : Og} (hlo : o.length ≤ 100000) (hlp : ps.length ≤ 200) (he : e.2.length ≤ 100000)
    (hN : ∀ y z, N [some (.d (Pol.retry us a).pd), some (.d (Pol.retry vs b).pd), some (.d (.list (ps.map npD))), x3, some (.d (.int (t : Int))), some (.c st.length), some (.d (npD e.1)), some (.d (ogV e.2)), y, z] (st ++ [.m (ogD (ps.foldl (attI us vs t e) o))])) :
    WSe E (aI [some (.d (Pol.retry us a).pd), some (.d (Pol.retry vs b).pd), some (.d (.list (ps.map npD))), x3, some (.d (.int (t : Int))), some (.c st.length), some (.d (npD e.1)), some (.d (ogV e.2)), x8, x9] (st ++ [.m (ogD o)])) N B C R := by
  unfold aI
  simp
  refine forGo_by (I := fun i ρ s => (∃ y z, ρ = [some (.d (Pol.retry us a).pd), some (.d (Pol.retry vs b).pd), some (.d (.list (ps.map npD))), x3, some (.d (.int (t : Int))), some (.c st.length), some (.d (npD e.1)), some (.d (ogV e.2)), y, z]) ∧ s = st ++ [.m (ogD ((ps.take i).foldl (attI us vs t e) o))]) _ 0 ⟨⟨_, _, rfl⟩, rfl⟩ (fun _ _ _ _ => trivial) ?_ ?_
  · rintro i d ρ s hd ⟨⟨y, z, rfl⟩, rfl⟩
    rw [List.getElem?_map] at hd
    obtain ⟨m, hm, rfl⟩ := Option.map_eq_some_iff.mp hd
    have hi : i < ps.length := (List.getElem?_eq_some_iff.mp hm).1
    rw [Nat.zero_add, W_gNm]
    have hlen := sdF_len (fun m : Np => (aft us t e.1.1 m.1, aft vs t e.1.2 m.2)) (fun m => e.2 ++ [m]) (ps.take i) o
    have hlen : ((ps.take i).foldl (attI us vs t e) o).length ≤ o.length + (ps.take i).length := hlen
    rw [List.length_take] at hlen
    rw [List.take_succ, hm, List.foldl_append]
    show WSe E (aB _ _) _ _ _ _
    generalize (ps.take i).foldl (attI us vs t e) o = o' at hlen
    unfold aB
    simp [ix_np0, ix_np1, ix_ret]
    refine w_after ?_
    simp [og_notGone, ix_ret]
    refine ⟨gnK_og o', w_after ?_⟩
    simp [szl, ogV]
    have ev : PyData.tuple (List.map npD e.2 ++ [npD m]) = ogV (e.2 ++ [m]) := by simp [ogV]
    rw [ev]
    exact ⟨by omega, ⟨gnK_og o', gnD_np (_, _), og_notGone o', by rw [og_len]; omega⟩, sd_og o' (aft us t e.1.1 m.1, aft vs t e.1.2 m.2) (e.2 ++ [m])⟩
  · rintro ρ s ⟨⟨y, z, rfl⟩, rfl⟩
    rw [Nat.zero_add, List.length_map, List.take_length]
    exact hN _ _
theorem attI_len (us vs : List Int) (t : Nat) (e : Np × List Np) (ps : List Np) (o : Og) : (ps.foldl (attI us vs t e) o).length ≤ o.length + ps.length := sdF_len (fun m : Np => (aft us t e.1.1 m.1, aft vs t e.1.2 m.2)) (fun m => e.2 ++ [m]) ps o
theorem attL_len (us vs : List Int) (t : Nat) (ps : List Np) : ∀ (o acc : Og), (o.foldl (fun acc e => ps.foldl (attI us vs t e) acc) acc).length ≤ acc.length + o.length * ps.length
  | [], acc => by simp
  | e :: o, acc => by
    have h1 := attL_len us vs t ps o (ps.foldl (attI us vs t e) acc)
    have h2 := attI_len us vs t e ps acc
    rw [List.foldl_cons, List.length_cons, Nat.succ_mul]
    omega
theorem w_aO {us vs : List Int} {a b : Pol} {t : Nat} {ps : List Np} {o : Og} (hl : o.length ≤ 200) (ho : o ≠ []) (hlp : ps.length ≤ 200) (he : ∀ e ∈ o, e.2.length ≤ 100000)
    (hN : ∀ x y z w, N [some (.d (Pol.retry us a).pd), some (.d (Pol.retry vs b).pd), some (.d (.list (ps.map npD))), some (.d (.dict (ogD o))), some (.d (.int (t : Int))), some (.c st.length), x, y, z, w] (st ++ [.m (ogD (attS us vs t ps o))])) :
    WSe E (aO [some (.d (Pol.retry us a).pd), some (.d (Pol.retry vs b).pd), some (.d (.list (ps.map npD))), some (.d (.dict (ogD o))), some (.d (.int (t : Int))), some (.c st.length), x6, x7, x8, x9] (st ++ [.m (ogD [])])) N B C R := by
  have key := @w_aI st
  unfold aO
  generalize aI = I at key ⊢
  simp [kd_og ho]
  have ei : itD (ogD o) = o.map fun e => PyData.tuple [npD e.1, ogV e.2] := by unfold itD ogD; rw [List.map_map]; rfl
  rw [ei]
  refine forGo_by (I := fun i ρ s => (∃ x y z w, ρ = [some (.d (Pol.retry us a).pd), some (.d (Pol.retry vs b).pd), some (.d (.list (ps.map npD))), some (.d (.dict (ogD o))), some (.d (.int (t : Int))), some (.c st.length), x, y, z, w]) ∧ s = st ++ [.m (ogD ((o.take i).foldl (fun acc e => ps.foldl (attI us vs t e) acc) []))]) _ 0 ⟨⟨_, _, _, _, rfl⟩, rfl⟩ (fun _ _ _ _ => trivial) ?_ ?_
  · rintro i d ρ s hd ⟨⟨x, y, z, w, rfl⟩, rfl⟩
    rw [List.getElem?_map] at hd
    obtain ⟨e, hm, rfl⟩ := Option.map_eq_some_iff.mp hd
    have hi : i < o.length := (List.getElem?_eq_some_iff.mp hm).1
    rw [Nat.zero_add, List.take_succ, hm, List.foldl_append]
    have hlen := attL_len us vs t ps (o.take i) []
    rw [List.length_take, List.length_nil] at hlen
    have hmu : min i o.length * ps.length ≤ 200 * 200 := Nat.mul_le_mul (by omega) hlp
    simp
    exact key (by omega) hlp (he e (List.mem_of_getElem? hm)) fun y z => ⟨⟨_, _, _, _, rfl⟩, rfl⟩
  · rintro ρ s ⟨⟨x, y, z, w, rfl⟩, rfl⟩
    rw [Nat.zero_add, List.length_map, List.take_length]
    exact hN _ _ _ _
theorem w_aT {us vs : List Int} {a b : Pol} {t : Nat} {ps : List Np} {o : Og} (hl : o.length ≤ 200) (ho : o ≠ []) (hlp : ps.length ≤ 200) (he : ∀ e ∈ o, e.2.length ≤ 100000)
    (hN : (attS us vs t ps o).length ≤ 200 → ∀ x y z w v, N [some (.d (Pol.retry us a).pd), some (.d (Pol.retry vs b).pd), some (.d (.list (ps.map npD))), some (.d (.dict (ogD (attS us vs t ps o)))), some (.d (.int (t : Int))), v, x, y, z, w] (st ++ [gone])) (hE : 200 < (attS us vs t ps o).length → ∀ s, E TME (st ++ s)) {X : Sv} (hX : X = aT) :
    WSe E (X [some (.d (Pol.retry us a).pd), some (.d (Pol.retry vs b).pd), some (.d (.list (ps.map npD))), some (.d (.dict (ogD o))), some (.d (.int (t : Int))), x5, x6, x7, x8, x9] st) N B C R := by
  have key := @w_aO st
  subst hX
  unfold aT
  generalize aO = O at key ⊢
  refine seq_cut (fun ρ s => ρ = [some (.d (Pol.retry us a).pd), some (.d (Pol.retry vs b).pd), some (.d (.list (ps.map npD))), some (.d (.dict (ogD o))), some (.d (.int (t : Int))), some (.c st.length), x6, x7, x8, x9] ∧ s = st ++ [.m (ogD [])]) ?_ ?_
  · simp [ogD]
  rintro ρ s ⟨rfl, rfl⟩
  refine seq_cut (fun ρ s => (∃ x y z w, ρ = [some (.d (Pol.retry us a).pd), some (.d (Pol.retry vs b).pd), some (.d (.list (ps.map npD))), some (.d (.dict (ogD o))), some (.d (.int (t : Int))), some (.c st.length), x, y, z, w]) ∧ s = st ++ [.m (ogD (attS us vs t ps o))]) (key hl ho hlp he fun x y z w => ⟨⟨_, _, _, _, rfl⟩, rfl⟩) ?_
  rintro ρ s ⟨⟨x, y, z, w, rfl⟩, rfl⟩
  generalize attS us vs t ps o = o' at hN hE ⊢
  refine seq_cut (fun ρ s => (ρ = [some (.d (Pol.retry us a).pd), some (.d (Pol.retry vs b).pd), some (.d (.list (ps.map npD))), some (.d (.dict (ogD o))), some (.d (.int (t : Int))), some (.c st.length), x, y, z, w] ∧ s = st ++ [.m (ogD o')]) ∧ o'.length ≤ 200) ?_ ?_
  · simp [og_notGone, gnK_og]
    refine w_check _ (fun hc => ?_) fun hc => ?_
    · simp
      rw [og_len] at hc
      omega
    · rw [List.take_of_length_le (by simp)]
      rw [og_len] at hc
      exact hE (by omega) _
  rintro ρ s ⟨⟨rfl, rfl⟩, hc⟩
  simp [zMd, og_notGone, gone]
  exact hN hc _ _ _ _ _
end
end Cp.Jt
/-! Jw6: the joint endings of two retries, whole; what joint_origins finds by kinds; instances of Joint. -/
namespace Cp.Jt
open PySem L2 Cp
section
variable {st : Sto} {P : Rv → Sto → Prop} {E : Er → Sto → Prop} {ρ : En} {N B C : En → Sto → Prop} {R : Rv → Sto → Prop} {x0 x1 x2 x3 x4 x5 x6 x7 x8 x9 : Option Vl}
theorem chk_some {o z : Og} (h : chk o = some z) : z = o ∧ o.length ≤ 200 := by
  unfold chk at h
  split at h
  · cases h
  · cases h; exact ⟨rfl, by omega⟩
theorem chk_ok {o : Og} (h : o.length ≤ 200) : chk o = some o := by unfold chk; rw [if_neg (by omega)]
theorem chk_no {o : Og} (h : 200 < o.length) : chk o = none := by unfold chk; rw [if_pos h]
theorem attO_s (us vs : List Int) (ps : List Np) (t : Nat) : attO us vs ps (t + 1) = (attO us vs ps t).bind fun o => chk (attS us vs t ps o) := rfl
theorem attO_mono {us vs : List Int} {ps : List Np} {t : Nat} (h : attO us vs ps t = none) : ∀ k, attO us vs ps (t + k) = none
  | 0 => h
  | k + 1 => by rw [Nat.add_succ, attO_s, attO_mono h k]; rfl
theorem sdF_ne {α : Type} (K : α → Np) (V : α → List Np) : ∀ (l : List α) (o : Og), (o ≠ [] ∨ l ≠ []) → l.foldl (fun o x => sd o (K x) (V x)) o ≠ []
  | [], o, h => by rcases h with h | h; exact h; exact absurd rfl h
  | x :: l, o, h => by
    rw [List.foldl_cons]
    exact sdF_ne K V l _ (.inl (sd_ne _ _ _))
theorem putF_ne {α : Type} (K : α → Np) (V : α → List Np) : ∀ (l : List α) (o : Og), (o ≠ [] ∨ l ≠ []) → l.foldl (fun o x => put o (K x) (V x)) o ≠ []
  | [], o, h => by rcases h with h | h; exact h; exact absurd rfl h
  | x :: l, o, h => by
    rw [List.foldl_cons]
    exact putF_ne K V l _ (.inl (put_ne _ _ _))
theorem putF_len {α : Type} (K : α → Np) (V : α → List Np) : ∀ (l : List α) (o : Og), (l.foldl (fun o x => put o (K x) (V x)) o).length ≤ o.length + l.length
  | [], o => Nat.le_refl _
  | x :: l, o => by
    have h1 := putF_len K V l (put o (K x) (V x))
    have h2 := (put_len o (K x) (V x)).1
    rw [List.foldl_cons, List.length_cons]
    omega
theorem attL_ne (us vs : List Int) (t : Nat) {ps : List Np} (hp : ps ≠ []) : ∀ (o acc : Og), (acc ≠ [] ∨ o ≠ []) → o.foldl (fun acc e => ps.foldl (attI us vs t e) acc) acc ≠ []
  | [], acc, h => by rcases h with h | h; exact h; exact absurd rfl h
  | e :: o, acc, h => by
    rw [List.foldl_cons]
    exact attL_ne us vs t hp o _ (.inl (sdF_ne (fun m : Np => (aft us t e.1.1 m.1, aft vs t e.1.2 m.2)) (fun m => e.2 ++ [m]) ps acc (.inr hp)))
theorem sd_all {Q : Np × List Np → Prop} {o : Og} {k : Np} {v : List Np} (h : ∀ e ∈ o, Q e) (hv : Q (k, v)) : ∀ e ∈ sd o k v, Q e := fun e he => by
  unfold sd at he
  split at he
  · exact h e he
  · rcases List.mem_append.mp he with he | he
    · exact h e he
    · rw [List.mem_singleton] at he; subst he; exact hv
theorem put_all {Q : Np × List Np → Prop} {o : Og} {k : Np} {v : List Np} (h : ∀ e ∈ o, Q e) (hv : ∀ z, Q (z, v)) : ∀ e ∈ put o k v, Q e := fun e he => by
  unfold put at he
  split at he
  · obtain ⟨p, hp, rfl⟩ := List.mem_map.mp he
    split
    · exact hv _
    · exact h p hp
  · rcases List.mem_append.mp he with he | he
    · exact h e he
    · rw [List.mem_singleton] at he; subst he; exact hv _
theorem att0_all (ps : List Np) : ∀ e ∈ att0 ps, e.2.length = 1 := by
  have : ∀ (l : List Np) (o : Og), (∀ e ∈ o, e.2.length = 1) → ∀ e ∈ l.foldl (fun o x => put o x [x]) o, e.2.length = 1 := by
    intro l
    induction l with
    | nil => intro o h; exact h
    | cons x l ih => intro o h; rw [List.foldl_cons]; exact ih _ (put_all (Q := fun e => e.2.length = 1) h fun _ => rfl)
  exact this ps [] (fun e h => by cases h)
theorem attS_all {us vs : List Int} {t n : Nat} {ps : List Np} : ∀ (o acc : Og), (∀ e ∈ o, e.2.length = n) → (∀ e ∈ acc, e.2.length = n + 1) → ∀ e ∈ o.foldl (fun acc e => ps.foldl (attI us vs t e) acc) acc, e.2.length = n + 1
  | [], acc, _, h => h
  | e :: o, acc, h1, h2 => by
    rw [List.foldl_cons]
    refine attS_all o _ (fun e h => h1 e (List.mem_cons_of_mem _ h)) ?_
    have he := h1 e (List.mem_cons_self ..)
    clear h1
    induction ps generalizing acc with
    | nil => exact h2
    | cons m ps ih =>
      rw [List.foldl_cons]
      exact ih _ (sd_all (Q := fun e => e.2.length = n + 1) h2 (by simp [he]))
theorem attO_ok {us vs : List Int} {ps : List Np} (hp : ps ≠ []) (hl : ps.length ≤ 200) : ∀ (t : Nat) {o : Og}, attO us vs ps t = some o → o ≠ [] ∧ o.length ≤ 200 ∧ ∀ e ∈ o, e.2.length = t + 1
  | 0, o, h => by
    cases h
    refine ⟨putF_ne (fun x => x) (fun x => [x]) ps [] (.inr hp), ?_, att0_all ps⟩
    have := putF_len (fun x : Np => x) (fun x => [x]) ps []
    simp at this
    exact Nat.le_trans this hl
  | t + 1, o, h => by
    rw [attO_s] at h
    obtain ⟨o', h1, h2⟩ := Option.bind_eq_some_iff.mp h
    obtain ⟨g1, g2, g3⟩ := attO_ok hp hl t h1
    obtain ⟨rfl, h4⟩ := chk_some h2
    exact ⟨attL_ne us vs t hp o' [] (.inr g1), h4, attS_all o' [] g3 (fun e h => by cases h)⟩
theorem w_aF {us vs : List Int} {a b : Pol} {ps : List Np} (hu : us.length ≤ 1000) (hv : vs.length ≤ 1000) (hp : ps ≠ []) (hl : ps.length ≤ 200)
    (hN : ∀ o t y4 y5 y6 y7 y8 y9, attO us vs ps (max us.length vs.length) = some o → N [some (.d (Pol.retry us a).pd), some (.d (Pol.retry vs b).pd), some (.d (.list (ps.map npD))), some (.d (.dict (ogD o))), y4, y5, y6, y7, y8, y9] (st ++ t))
    (hE : attO us vs ps (max us.length vs.length) = none → ∀ t, E TME (st ++ t)) {X : Sv} (hX : X = aF) :
    WSe E (X [some (.d (Pol.retry us a).pd), some (.d (Pol.retry vs b).pd), some (.d (.list (ps.map npD))), some (.d (.dict (ogD (att0 ps)))), x4, x5, x6, x7, x8, x9] st) N B C R := by
  have key := @w_aT
  subst hX
  unfold aF
  generalize aT = T at key ⊢
  obtain ⟨kk, hk⟩ : ∃ kk : Int, kk = ((max us.length vs.length : Nat) : Int) := ⟨_, rfl⟩
  have e1 : (if us.length < vs.length then (vs.length : Int) else (us.length : Int)) = kk := by
    rw [hk]; split <;> omega
  simp [ix_ret]
  rw [e1]
  refine ⟨by unfold rOk; simp; omega, ?_⟩
  refine forGo_by (I := fun i ρ s => ∃ o t y4 y5 y6 y7 y8 y9, attO us vs ps i = some o ∧ ρ = [some (.d (Pol.retry us a).pd), some (.d (Pol.retry vs b).pd), some (.d (.list (ps.map npD))), some (.d (.dict (ogD o))), y4, y5, y6, y7, y8, y9] ∧ s = st ++ t) _ 0 ⟨att0 ps, [], _, _, _, _, _, _, rfl, rfl, by simp⟩ (fun _ _ _ _ => trivial) ?_ ?_
  · rintro i d ρ s hd ⟨o, t, y4, y5, y6, y7, y8, y9, ho, rfl, rfl⟩
    rw [Nat.zero_add] at ho ⊢
    unfold rngD at hd
    rw [List.getElem?_map] at hd
    obtain ⟨i', hi, rfl⟩ := Option.map_eq_some_iff.mp hd
    obtain ⟨hi1, hi2⟩ := List.getElem?_eq_some_iff.mp hi
    rw [List.length_range] at hi1
    rw [List.getElem_range] at hi2
    subst hi2
    obtain ⟨g1, g2, g3⟩ := attO_ok hp hl i ho
    rw [W_gNm, Int.zero_add]
    simp only [List.set]
    refine key g2 g1 hl (fun e he => by rw [g3 e he]; omega) (fun hc x y z w v => ?_) (fun hc s => ?_) rfl
    · exact ⟨_, _, _, _, _, _, _, _, by rw [attO_s, ho]; exact chk_ok hc, rfl, by rw [List.append_assoc]⟩
    · rw [List.append_assoc]
      refine hE ?_ _
      have h1 : attO us vs ps (i + 1) = none := by rw [attO_s, ho]; exact chk_no hc
      have h2 := attO_mono h1 (max us.length vs.length - (i + 1))
      rw [show i + 1 + (max us.length vs.length - (i + 1)) = max us.length vs.length by omega] at h2
      exact h2
  · rintro ρ s ⟨o, t, y4, y5, y6, y7, y8, y9, ho, rfl, rfl⟩
    have hlen : (rngD 0 kk).length = max us.length vs.length := by unfold rngD; rw [List.length_map, List.length_range]; omega
    rw [Nat.zero_add, hlen] at ho
    exact hN _ _ _ _ _ _ _ _ ho
end
end Cp.Jt
/-! Jw7: what joint_origins finds, by kinds. -/
namespace Cp.Jt
open PySem L2 Cp
def belowJ (p q : Pol) : List PyData := (p.inn.zip q.inn).map fun x => jdat x.1 x.2
def rawJ : Pol → Pol → Option Og
  | .call l g b h, _ => if respN g b h > 200 then none else some (callO (respL g b h))
  | .wait n, .wait m => some [((some (n, true), some (m, true)), [])]
  | .two k a b, .two _ c d => (jog a c).bind fun o => (jog b d).map fun o' => twoO (twoN k) (twoN k) (keys o) (keys o')
  | .num k n a b, .num _ m c d => (jog a c).bind fun o => (jog b d).map fun o' => twoO (numN k n) (numN k m) (keys o) (keys o')
  | .retry us a, .retry vs b => (jog a b).bind fun o => attO us vs (keys o) (max us.length vs.length)
  | .tmo n a, .tmo m b => (jog a b).map fun o => tmoO n m (keys o)
  | _, _ => none
theorem jdat_is : ∀ p q : Pol, ∃ bl, jdat p q = jdD p ((jog p q).getD []) bl := by
  intro p q
  cases p <;> cases q <;> exact ⟨_, rfl⟩
theorem jdat_eq {p q : Pol} (h : Fm p q) : jdat p q = jdD p ((jog p q).getD []) (belowJ p q) := by
  cases p <;> cases q <;> first | rfl | exact absurd h (by simp [Fm])
/-- moments of calls that a range can take -/
def JT : Pol → Prop
  | .call _ g b _ => topO g ≤ 2 ^ 61 ∧ topO b ≤ 2 ^ 61
  | .wait _ => True
  | .two _ a b => JT a ∧ JT b
  | .num _ _ a b => JT a ∧ JT b
  | .retry _ a => JT a
  | .tmo _ a => JT a
theorem rngN_len (o : Bool) {g : Span} (h : spO g) : ((rngN o g).length : Int) = widN g := by
  rcases g with _ | p
  · rfl
  · have := h p rfl
    unfold rngN
    rw [List.length_map, List.length_range]
    show _ = p.2 - p.1 + 1
    omega
theorem respL_len {g b : Span} (h : Bool) (hg : spO g) (hb : spO b) : ((respL g b h).length : Int) = respN g b h := by
  have h1 := rngN_len true hg
  have h2 := rngN_len false hb
  unfold respL respN
  rw [List.length_append, List.length_append]
  cases h <;> simp <;> omega
theorem respL_ne {g b : Span} {h : Bool} (hg : spO g) (hb : spO b) (hh : h = true ∨ g ≠ none ∨ b ≠ none) : respL g b h ≠ [] := by
  intro e
  have := respL_len h hg hb
  rw [e] at this
  unfold respN at this
  have wn : ∀ {s : Span}, spO s → 0 ≤ widN s ∧ (s ≠ none → 0 < widN s) := fun {s} hs => by
    rcases s with _ | p
    · exact ⟨Int.le_refl _, fun h => absurd rfl h⟩
    · have := hs p rfl
      show 0 ≤ p.2 - p.1 + 1 ∧ (_ → 0 < p.2 - p.1 + 1)
      exact ⟨by omega, fun _ => by omega⟩
  have h1 := wn hg
  have h2 := wn hb
  simp at this
  rcases hh with rfl | hh | hh
  · simp at this; omega
  · have := h1.2 hh
    split at * <;> omega
  · have := h2.2 hh
    split at * <;> omega
theorem callO_len (rs : List Nd) : (callO rs).length ≤ rs.length := by
  have := putF_len (fun r : Nd => (r, r)) (fun _ => []) rs []
  simpa [callO] using this
theorem tmoO_len (n m : Option Int) (ps : List Np) : (tmoO n m ps).length ≤ ps.length := by
  have := putF_len (fun x : Np => (tmoN n x.1, tmoN m x.2)) (fun x => [x]) ps []
  simpa [tmoO] using this
theorem jog_raw {p q : Pol} (h : Fm p q) (ho : p.Ok0) : jog p q = (rawJ p q).bind chk := by
  cases p with
  | call l g b hh =>
    show (if respN g b hh > 200 then none else some (callO (respL g b hh))) = (if respN g b hh > 200 then none else some (callO (respL g b hh))).bind chk
    split
    · rfl
    · have h1 := callO_len (respL g b hh)
      have h2 := respL_len hh ho.1 ho.2.1
      exact (chk_ok (by omega)).symm
  | wait n =>
    cases q <;> first | rfl | exact absurd h (by simp [Fm])
  | two k a b =>
    cases q with
    | two k' c d =>
      show ((jog a c).bind fun o => (jog b d).bind fun o' => chk _) = ((jog a c).bind fun o => (jog b d).map fun o' => _).bind chk
      cases jog a c with
      | none => rfl
      | some o => cases jog b d <;> rfl
    | _ => exact absurd h (by simp [Fm])
  | num k n a b =>
    cases q with
    | num k' m c d =>
      show ((jog a c).bind fun o => (jog b d).bind fun o' => chk _) = ((jog a c).bind fun o => (jog b d).map fun o' => _).bind chk
      cases jog a c with
      | none => rfl
      | some o => cases jog b d <;> rfl
    | _ => exact absurd h (by simp [Fm])
  | retry us a =>
    cases q with
    | retry vs b =>
      show ((jog a b).bind fun o => (attO us vs (keys o) (max us.length vs.length)).bind chk) = ((jog a b).bind fun o => attO us vs (keys o) (max us.length vs.length)).bind chk
      cases jog a b <;> rfl
    | _ => exact absurd h (by simp [Fm])
  | tmo n a =>
    cases q with
    | tmo m b =>
      show ((jog a b).bind fun o => chk _) = ((jog a b).map fun o => _).bind chk
      cases jog a b <;> rfl
    | _ => exact absurd h (by simp [Fm])
theorem keys_ne {o : Og} (h : o ≠ []) : keys o ≠ [] := fun e => h (List.map_eq_nil_iff.mp e)
theorem keys_len (o : Og) : (keys o).length = o.length := List.length_map ..
theorem twoO_ne (f g : Nd → Nd → Nd) {ps qs : List Np} (hp : ps ≠ []) (hq : qs ≠ []) : twoO f g ps qs ≠ [] := by
  have : ∀ (ps : List Np) (o : Og), (o ≠ [] ∨ ps ≠ []) → ps.foldl (fun o x => qs.foldl (fun o y => sd o (f x.1 y.1, g x.2 y.2) [x, y]) o) o ≠ [] := by
    intro ps
    induction ps with
    | nil => intro o h; rcases h with h | h; exact h; exact absurd rfl h
    | cons x ps ih =>
      intro o h
      rw [List.foldl_cons]
      exact ih _ (.inl (sdF_ne (fun y : Np => (f x.1 y.1, g x.2 y.2)) (fun y => [x, y]) qs o (.inr hq)))
  exact this ps [] (.inr hp)
theorem raw_ok {p q : Pol} (h : Fm p q) (ho : p.Ok0) {o : Og} (hr : rawJ p q = some o) (hin : ∀ x ∈ p.inn.zip q.inn, ∀ z, jog x.1 x.2 = some z → z ≠ [] ∧ z.length ≤ 200) : o ≠ [] ∧ o.length ≤ 100000 := by
  cases p with
  | call l g b hh =>
    have hr : (if respN g b hh > 200 then none else some (callO (respL g b hh))) = some o := hr
    split at hr
    · cases hr
    · cases hr
      have h1 := callO_len (respL g b hh)
      have h2 := respL_len hh ho.1 ho.2.1
      exact ⟨putF_ne (fun r : Nd => (r, r)) (fun _ => []) _ [] (.inr (respL_ne ho.1 ho.2.1 ho.2.2)), by omega⟩
  | wait n =>
    cases q with
    | wait m => cases hr; exact ⟨by simp, by simp⟩
    | _ => exact absurd h (by simp [Fm])
  | two k a b =>
    cases q with
    | two k' c d =>
      have hr : ((jog a c).bind fun o => (jog b d).map fun o' => twoO (twoN k) (twoN k) (keys o) (keys o')) = some o := hr
      obtain ⟨z, hz, hr⟩ := Option.bind_eq_some_iff.mp hr
      obtain ⟨y, hy, rfl⟩ := Option.map_eq_some_iff.mp hr
      have h1 := hin (a, c) (by simp [Pol.inn]) z hz
      have h2 := hin (b, d) (by simp [Pol.inn]) y hy
      refine ⟨twoO_ne _ _ (keys_ne h1.1) (keys_ne h2.1), ?_⟩
      have := twoI_len (twoN k) (twoN k) (keys y) (keys z) []
      have hm : (keys z).length * (keys y).length ≤ 200 * 200 := Nat.mul_le_mul (by rw [keys_len]; exact h1.2) (by rw [keys_len]; exact h2.2)
      rw [List.length_nil] at this
      unfold twoO; omega
    | _ => exact absurd h (by simp [Fm])
  | num k n a b =>
    cases q with
    | num k' m c d =>
      have hr : ((jog a c).bind fun o => (jog b d).map fun o' => twoO (numN k n) (numN k m) (keys o) (keys o')) = some o := hr
      obtain ⟨z, hz, hr⟩ := Option.bind_eq_some_iff.mp hr
      obtain ⟨y, hy, rfl⟩ := Option.map_eq_some_iff.mp hr
      have h1 := hin (a, c) (by simp [Pol.inn]) z hz
      have h2 := hin (b, d) (by simp [Pol.inn]) y hy
      refine ⟨twoO_ne _ _ (keys_ne h1.1) (keys_ne h2.1), ?_⟩
      have := twoI_len (numN k n) (numN k m) (keys y) (keys z) []
      have hm : (keys z).length * (keys y).length ≤ 200 * 200 := Nat.mul_le_mul (by rw [keys_len]; exact h1.2) (by rw [keys_len]; exact h2.2)
      rw [List.length_nil] at this
      unfold twoO; omega
    | _ => exact absurd h (by simp [Fm])
  | retry us a =>
    cases q with
    | retry vs b =>
      have hr : ((jog a b).bind fun o => attO us vs (keys o) (max us.length vs.length)) = some o := hr
      obtain ⟨z, hz, hr⟩ := Option.bind_eq_some_iff.mp hr
      have h1 := hin (a, b) (by simp [Pol.inn]) z hz
      have := attO_ok (keys_ne h1.1) (by rw [keys_len]; exact h1.2) _ hr
      exact ⟨this.1, by omega⟩
    | _ => exact absurd h (by simp [Fm])
  | tmo n a =>
    cases q with
    | tmo m b =>
      have hr : ((jog a b).map fun o => tmoO n m (keys o)) = some o := hr
      obtain ⟨z, hz, rfl⟩ := Option.map_eq_some_iff.mp hr
      have h1 := hin (a, b) (by simp [Pol.inn]) z hz
      refine ⟨putF_ne (fun x : Np => (tmoN n x.1, tmoN m x.2)) (fun x => [x]) _ [] (.inr (keys_ne h1.1)), ?_⟩
      have := tmoO_len n m (keys z)
      rw [keys_len] at this
      omega
    | _ => exact absurd h (by simp [Fm])
theorem fm_inn {p q : Pol} (h : Fm p q) : p.inn.length = q.inn.length ∧ ∀ x ∈ p.inn.zip q.inn, Fm x.1 x.2 := by
  cases p <;> cases q <;> try (exfalso; first | exact h | (cases h; done))
  · exact ⟨rfl, fun x hx => by simp [Pol.inn] at hx⟩
  · exact ⟨rfl, fun x hx => by simp [Pol.inn] at hx⟩
  · refine ⟨rfl, fun x hx => ?_⟩
    simp [Pol.inn] at hx
    rcases hx with rfl | rfl
    · exact h.2.1
    · exact h.2.2
  · refine ⟨rfl, fun x hx => ?_⟩
    simp [Pol.inn] at hx
    rcases hx with rfl | rfl
    · exact h.2.1
    · exact h.2.2
  · refine ⟨rfl, fun x hx => ?_⟩
    simp [Pol.inn] at hx
    subst hx
    exact h
  · refine ⟨rfl, fun x hx => ?_⟩
    simp [Pol.inn] at hx
    subst hx
    exact h
end Cp.Jt
/-! Jw8: joint_origins, joint_of. -/
namespace Cp.Jt
open PySem L2 Cp
theorem inn_ok0 {p q : Pol} (ho : p.Ok0) (h : q ∈ p.inn) : q.Ok0 := by
  cases p with
  | call l g b hh => simp [Pol.inn] at h
  | wait n => simp [Pol.inn] at h
  | two k a b =>
    simp [Pol.inn] at h
    rcases h with rfl | rfl
    · exact ho.1
    · exact ho.2
  | num k n a b =>
    simp [Pol.inn] at h
    rcases h with rfl | rfl
    · exact ho.2.1
    · exact ho.2.2
  | retry ps a => simp [Pol.inn] at h; subst h; exact ho.2
  | tmo n a => simp [Pol.inn] at h; subst h; exact ho.2
theorem inn_jt {p q : Pol} (ho : JT p) (h : q ∈ p.inn) : JT q := by
  cases p with
  | call l g b hh => simp [Pol.inn] at h
  | wait n => simp [Pol.inn] at h
  | two k a b =>
    simp [Pol.inn] at h
    rcases h with rfl | rfl
    · exact ho.1
    · exact ho.2
  | num k n a b =>
    simp [Pol.inn] at h
    rcases h with rfl | rfl
    · exact ho.1
    · exact ho.2
  | retry ps a => simp [Pol.inn] at h; subst h; exact ho
  | tmo n a => simp [Pol.inn] at h; subst h; exact ho
theorem jog_ok : ∀ (f : Nat) {p q : Pol}, p.depth ≤ f → Fm p q → p.Ok0 → ∀ {o : Og}, jog p q = some o → o ≠ [] ∧ o.length ≤ 200
  | 0, p, _, hd, _, _, _, _ => by cases p <;> (simp only [Pol.depth] at hd; omega)
  | f + 1, p, q, hd, hF, ho, o, h => by
    rw [jog_raw hF ho] at h
    obtain ⟨z, hz, h2⟩ := Option.bind_eq_some_iff.mp h
    obtain ⟨rfl, hl⟩ := chk_some h2
    refine ⟨(raw_ok hF ho hz fun x hx y hy => ?_).1, hl⟩
    have hm := List.of_mem_zip hx
    have h1 := inn_depth hm.1
    exact jog_ok f (by omega) ((fm_inn hF).2 x hx) (inn_ok0 ho hm.1) hy
section
variable {st : Sto} {P : Rv → Sto → Prop} {E : Er → Sto → Prop} {ρ : En} {N B C : En → Sto → Prop} {R : Rv → Sto → Prop} {x0 x1 x2 x3 x4 x5 x6 x7 x8 x9 : Option Vl}
theorem ix_kc (l : Str) (g b : Span) (h : Bool) : fIx (Pol.call l g b h).pd (.int 0) = some (.d (.str (Str.ofString "call"))) := rfl
theorem ix_kw (n : Int) : fIx (Pol.wait n).pd (.int 0) = some (.d (.str (Str.ofString "wait"))) := rfl
theorem ix_kt (k : Two) (a b : Pol) : fIx (Pol.two k a b).pd (.int 0) = some (.d (.str k.s)) := rfl
theorem ix_kn (k : Num) (n : Option Int) (a b : Pol) : fIx (Pol.num k n a b).pd (.int 0) = some (.d (.str k.s)) := rfl
theorem ix_kr (ps : List Int) (a : Pol) : fIx (Pol.retry ps a).pd (.int 0) = some (.d (.str (Str.ofString "retry"))) := rfl
theorem ix_km (n : Option Int) (a : Pol) : fIx (Pol.tmo n a).pd (.int 0) = some (.d (.str (Str.ofString "timeout"))) := rfl
theorem ix_w1 (n : Int) : fIx (Pol.wait n).pd (.int 1) = some (.d (.int n)) := rfl
theorem ix_m1 (n : Option Int) (a : Pol) : fIx (Pol.tmo n a).pd (.int 1) = some (.d (nuD n)) := rfl
theorem w_oC {l : Str} {g b : Span} {h : Bool} {qd : PyData} (hg : spO g) (hb : spO b) (tg : topO g ≤ 2 ^ 61) (tb : topO b ≤ 2 ^ 61)
    (hR : respN g b h ≤ 200 → R (.n (.m (ogD (callO (respL g b h))))) st) (hE : 200 < respN g b h → ∀ t, E TME (st ++ t)) :
    WSe E (oC [some (.d (Pol.call l g b h).pd), some (.d qd), x2, x3, x4, x5, x6, x7, x8, x9] st) N B C R := by
  unfold oC
  simp [ix_kc]
  refine w_resp hg hb tg tb (fun hc => ?_) fun hc => ?_
  · simp
    refine dc_put ndD (fun r => (r, r)) (fun _ => []) (respL g b h) (fun x hx => ?_) ?_ ?_
    · simp [wipeE, szl]
      exact ⟨rfl, rfl⟩
    · have := respL_len h hg hb
      omega
    · exact hR hc
  · have := hE hc []
    simpa using this
theorem w_oW {n m : Int} (hR : R (.n (.m (ogD [((some (n, true), some (m, true)), [])]))) st) : WSe E (oW [some (.d (Pol.wait n).pd), some (.d (Pol.wait m).pd), x2, x3, x4, x5, x6, x7, x8, x9] st) N B C R := by
  unfold oW
  simp [ix_kw, ix_w1, szl]
  exact ⟨gnD_np (some (n, true), some (m, true)), hR⟩
theorem w_oP {o : Og} {p : Pol} {bl bl2 : List PyData} {pd qd : PyData} (hN : N [some (.d pd), some (.d qd), some (.d (.list (jdD p o bl :: bl2))), some (.d (.list ((keys o).map npD))), x4, x5, x6, x7, x8, x9] st) :
    WSe E (oP [some (.d pd), some (.d qd), some (.d (.list (jdD p o bl :: bl2))), x3, x4, x5, x6, x7, x8, x9] st) N B C R := by
  unfold oP
  have e1 : L2.atI (jdD p o bl :: bl2) 0 = some (jdD p o bl) := (atI_at (xs := jdD p o bl :: bl2) (k := 0) rfl (by simp)).trans rfl
  simp [e1, fld_og, gnK_og]
  rw [og_keys]
  exact hN
theorem w_oM {n m : Option Int} {a b : Pol} {ps : List Np} (hl : ps.length ≤ 200) (hR : R (.n (.m (ogD (tmoO n m ps)))) st) :
    WSe E (oM [some (.d (Pol.tmo n a).pd), some (.d (Pol.tmo m b).pd), x2, some (.d (.list (ps.map npD))), x4, x5, x6, x7, x8, x9] st) N B C R := by
  unfold oM
  simp [ix_km]
  refine dc_put npD (fun x => (tmoN n x.1, tmoN m x.2)) (fun x => [x]) ps (fun x hx => ?_) (by omega) hR
  simp [wipeE, ix_np0, ix_np1, ix_m1]
  refine w_timed_out ?_
  simp [ix_np0, ix_np1, ix_m1]
  refine w_timed_out ?_
  simp [szl]
  exact ⟨rfl, rfl⟩
theorem w_oR {us vs : List Int} {a b : Pol} {ps : List Np} (hu : us.length ≤ 1000) (hv : vs.length ≤ 1000) (hp : ps ≠ []) (hl : ps.length ≤ 200)
    (hR : ∀ o, attO us vs ps (max us.length vs.length) = some o → R (.d (.dict (ogD o))) st) (hE : attO us vs ps (max us.length vs.length) = none → ∀ t, E TME (st ++ t)) :
    WSe E (oR [some (.d (Pol.retry us a).pd), some (.d (Pol.retry vs b).pd), x2, some (.d (.list (ps.map npD))), x4, x5, x6, x7, x8, x9] st) N B C R := by
  unfold oR
  simp [ix_kr]
  unfold semJ_joint_attempts
  rw [at_eq, W_body]
  refine ⟨rfl, ?_⟩
  have key := @w_aF
  generalize aF = F at key ⊢
  refine seq_cut (fun ρ s => ρ = [some (.d (Pol.retry us a).pd), some (.d (Pol.retry vs b).pd), some (.d (.list (ps.map npD))), some (.d (.dict (ogD (att0 ps)))), none, none, none, none, none, none] ∧ s = st) ?_ ?_
  · simp
    refine dc_put npD (fun x => x) (fun x => [x]) ps (fun x hx => ?_) (by omega) ?_
    · simp [wipeE, szl]
      rfl
    · simp
      rfl
  rintro ρ s ⟨rfl, rfl⟩
  refine seq_cut (fun ρ s' => ∃ o t y4 y5 y6 y7 y8 y9, attO us vs ps (max us.length vs.length) = some o ∧ ρ = [some (.d (Pol.retry us a).pd), some (.d (Pol.retry vs b).pd), some (.d (.list (ps.map npD))), some (.d (.dict (ogD o))), y4, y5, y6, y7, y8, y9] ∧ s' = s ++ t) ?_ ?_
  · exact key hu hv hp hl (fun o t y4 y5 y6 y7 y8 y9 h => ⟨o, t, y4, y5, y6, y7, y8, y9, h, rfl, rfl⟩) (fun h t => by
      have := hE h []
      simpa using this) rfl
  rintro ρ s' ⟨o, t, y4, y5, y6, y7, y8, y9, h, rfl, rfl⟩
  simp
  exact hR o h
end
end Cp.Jt
/-! Jw9: joint_of. -/
namespace Cp.Jt
open PySem L2 Cp
section
variable {st s : Sto} {P : Rv → Sto → Prop} {E : Er → Sto → Prop} {ρ : En} {N B C : En → Sto → Prop} {R : Rv → Sto → Prop} {x0 x1 x2 x3 x4 x5 x6 x7 x8 x9 : Option Vl}
theorem W_mMakeD {cls : Str} {sem : Fs} {mas : En → Sto → Res (List Vl)} : WVe E (mMakeD cls sem mas ρ st) P = WVe E (mas ρ st) fun xs s => WVe E (insR cls s st.length (sem (.o (.ob (objsOf s).length) :: xs) (newO s (.ins cls [])))) P := by
  unfold mMakeD
  rw [WV_bind]
theorem w_insR {cls : Str} {n : Nat} {r : Res Rv} {fs : List (Str × Fv)} {kvs : List (PyData × PyData)} (h : WVe noE r fun v s2 => v = .d .none ∧ s2 = newO s (.ins cls fs)) (h0 : 0 < s.length) (hf : flD fs = some kvs) (hP : P (.d (insD cls kvs)) (s.take n)) : WVe E (insR cls s n r) P := by
  cases r with
  | no => exact h
  | er e s => exact False.elim h
  | ok v s2 =>
    rw [WV_ok] at h
    obtain ⟨rfl, rfl⟩ := h
    unfold insR
    have e1 : (objsOf (newO s (.ins cls fs)))[(objsOf s).length]? = some (.ins cls fs) := by
      rw [objsOf_new h0, List.getElem?_append_right (Nat.le_refl _), Nat.sub_self]; rfl
    simp only [e1, hf]
    rw [if_pos ⟨trivial, trivial⟩]
    exact hP
theorem put_newO (h : 0 < s.length) (x y : Ho) : putO (newO s x) (objsOf s).length y = newO s y := by
  unfold putO
  rw [objsOf_new h]
  unfold newO
  rw [List.set_set, List.set_append_right _ _ (Nat.le_refl _), Nat.sub_self]
  rfl
theorem ins_newO (h : 0 < s.length) (cls : Str) (fs : List (Str × Fv)) : insAt (newO s (.ins cls fs)) (objsOf s).length cls = some fs := insAt_of (by rw [objsOf_new h, List.getElem?_append_right (Nat.le_refl _), Nat.sub_self]; rfl)
theorem w_jinit (h : 0 < s.length) (a b c : PyData) : WVe noE (semJ_Joint___init__ [.o (.ob (objsOf s).length), .d a, .d b, .d c] (newO s (.ins "Joint" []))) fun v s2 => v = .d .none ∧ s2 = newO s (.ins "Joint" [(Str.ofString "part", .d a), (Str.ofString "origins", .d b), (Str.ofString "below", .d c)]) := by
  unfold semJ_Joint___init__ sbJ_Joint___init__
  rw [W_body]
  refine ⟨rfl, ?_⟩
  simp [ins_newO h, put_newO h]
  exact ⟨by simp [putFv], by simp [putFv], rfl⟩
theorem skC {p q : PyData} {k : Str} (h1 : fIx p (.int 0) = some (.d (.str k))) (h2 : gEq (.str k) (.str (Str.ofString "call")) = some false) (h3 : N [some (.d p), some (.d q), x2, x3, x4, x5, x6, x7, x8, x9] st) : WSe E (oC [some (.d p), some (.d q), x2, x3, x4, x5, x6, x7, x8, x9] st) N B C R := by
  unfold oC
  simp [h1, h2]
  exact h3
theorem skW {p q : PyData} {k : Str} (h1 : fIx p (.int 0) = some (.d (.str k))) (h2 : gEq (.str k) (.str (Str.ofString "wait")) = some false) (h3 : N [some (.d p), some (.d q), x2, x3, x4, x5, x6, x7, x8, x9] st) : WSe E (oW [some (.d p), some (.d q), x2, x3, x4, x5, x6, x7, x8, x9] st) N B C R := by
  unfold oW
  simp [h1, h2]
  exact h3
theorem skR {p q : PyData} {k : Str} (h1 : fIx p (.int 0) = some (.d (.str k))) (h2 : gEq (.str k) (.str (Str.ofString "retry")) = some false) (h3 : N [some (.d p), some (.d q), x2, x3, x4, x5, x6, x7, x8, x9] st) : WSe E (oR [some (.d p), some (.d q), x2, x3, x4, x5, x6, x7, x8, x9] st) N B C R := by
  unfold oR
  simp [h1, h2]
  exact h3
theorem skM {p q : PyData} {k : Str} (h1 : fIx p (.int 0) = some (.d (.str k))) (h2 : gEq (.str k) (.str (Str.ofString "timeout")) = some false) (h3 : N [some (.d p), some (.d q), x2, x3, x4, x5, x6, x7, x8, x9] st) : WSe E (oM [some (.d p), some (.d q), x2, x3, x4, x5, x6, x7, x8, x9] st) N B C R := by
  unfold oM
  simp [h1, h2]
  exact h3
theorem w_orig {p q : Pol} (hF : Fm p q) (hs : ∀ x ∈ p.inn.zip q.inn, ∃ o, jog x.1 x.2 = some o) (ho : p.Ok0) (hj : JT p) (hp : p.Few 1000) (hq : q.Few 1000) {n : Nat} (hn : n = st.length)
    (h : ∀ o v, rawJ p q = some o → frz v = .d (.dict (ogD o)) → P v st) (hE : rawJ p q = none → ∀ t, E TME (st ++ t)) :
    WVe E (semJ_joint_origins [.d p.pd, .d q.pd, .d (.list (belowJ p q))] st) fun v s => back n v s P := by
  subst hn
  have kC := @w_oC
  have kW := @w_oW
  have kP := @w_oP
  have kR := @w_oR
  have kM := @w_oM
  have kT := @w_oT
  unfold semJ_joint_origins
  rw [or_eq, W_body]
  refine ⟨rfl, ?_⟩
  have nC := @skC
  have nW := @skW
  have nR := @skR
  have nM := @skM
  generalize oC = vC at kC nC ⊢
  generalize oW = vW at kW nW ⊢
  generalize oP = vP at kP ⊢
  generalize oR = vR at kR nR ⊢
  generalize oM = vM at kM nM ⊢
  generalize oT = vT at kT ⊢
  show WSe E (sSeq vC (sSeq vW (sSeq vP (sSeq vR (sSeq vM vT)))) [some (.d p.pd), some (.d q.pd), some (.d (.list (belowJ p q))), none, none, none, none, none, none, none] st) _ _ _ _
  have fin : ∀ (o : Og) (v : Rv), rawJ p q = some o → frz v = .d (.dict (ogD o)) → (∀ i, v ≠ .c i) → back st.length v st P := fun o v h1 h2 h3 => by
    have := h o v h1 h2
    cases v <;> first | exact absurd rfl (h3 _) | (show P _ (st.take st.length); rw [List.take_length]; exact this)
  cases p with
  | call l g b hh =>
    refine seq_cut (fun _ _ => False) ?_ fun _ _ z => False.elim z
    refine kC ho.1 ho.2.1 hj.1 hj.2 (fun hc => fin _ _ ?_ rfl (fun _ e => by cases e)) fun hc => hE ?_
    · show (if respN g b hh > 200 then none else some (callO (respL g b hh))) = _
      rw [if_neg (by omega)]
    · show (if respN g b hh > 200 then none else some (callO (respL g b hh))) = _
      rw [if_pos (by omega)]
  | wait n =>
    cases q with
    | wait m =>
      refine seq_cut (fun ρ s => ρ = [some (.d (Pol.wait n).pd), some (.d (Pol.wait m).pd), some (.d (.list (belowJ (.wait n) (.wait m)))), none, none, none, none, none, none, none] ∧ s = st) (nC (ix_kw n) (by decide +kernel) ⟨rfl, rfl⟩) ?_
      rintro ρ s ⟨rfl, rfl⟩
      refine seq_cut (fun _ _ => False) ?_ fun _ _ z => False.elim z
      exact kW (fin _ _ rfl rfl (fun _ e => by cases e))
    | _ => exact absurd hF (by simp [Fm])
  | two k a b =>
    cases q with
    | two k' c d =>
      obtain ⟨o1, e1⟩ := hs (a, c) (by simp [Pol.inn])
      obtain ⟨o2, e2⟩ := hs (b, d) (by simp [Pol.inn])
      have g1 := jog_ok _ (Nat.le_refl _) hF.2.1 ho.1 e1
      have g2 := jog_ok _ (Nat.le_refl _) hF.2.2 ho.2 e2
      obtain ⟨bl1, j1⟩ := jdat_is a c
      obtain ⟨bl2, j2⟩ := jdat_is b d
      have e1 : jog a c = some o1 := e1
      have e2 : jog b d = some o2 := e2
      rw [e1] at j1
      rw [e2] at j2
      have eb : belowJ (.two k a b) (.two k' c d) = [jdD a o1 bl1, jdD b o2 bl2] := by show [jdat a c, jdat b d] = _; rw [j1, j2]; rfl
      have hk1 : ∀ w : String, w ∈ ["call", "wait", "retry", "timeout"] → gEq (.str k.s) (.str (Str.ofString w)) = some false := fun w hw => by
        simp at hw
        rcases hw with rfl | rfl | rfl | rfl <;> cases k <;> decide +kernel
      rw [eb]
      obtain rfl : k = k' := hF.1
      refine seq_cut (fun ρ s => ρ = [some (.d (Pol.two k a b).pd), some (.d (Pol.two k c d).pd), some (.d (.list [jdD a o1 bl1, jdD b o2 bl2])), none, none, none, none, none, none, none] ∧ s = st) (nC (ix_kt k a b) (hk1 _ (by simp)) ⟨rfl, rfl⟩) ?_
      rintro ρ s ⟨rfl, rfl⟩
      refine seq_cut (fun ρ s' => ρ = [some (.d (Pol.two k a b).pd), some (.d (Pol.two k c d).pd), some (.d (.list [jdD a o1 bl1, jdD b o2 bl2])), none, none, none, none, none, none, none] ∧ s' = s) (nW (ix_kt k a b) (hk1 _ (by simp)) ⟨rfl, rfl⟩) ?_
      rintro ρ s' ⟨rfl, rfl⟩
      refine seq_cut (fun ρ s => ρ = [some (.d (Pol.two k a b).pd), some (.d (Pol.two k c d).pd), some (.d (.list [jdD a o1 bl1, jdD b o2 bl2])), some (.d (.list ((keys o1).map npD))), none, none, none, none, none, none] ∧ s = s') (kP ⟨rfl, rfl⟩) ?_
      rintro ρ s ⟨rfl, rfl⟩
      refine seq_cut (fun ρ s' => ρ = [some (.d (Pol.two k a b).pd), some (.d (Pol.two k c d).pd), some (.d (.list [jdD a o1 bl1, jdD b o2 bl2])), some (.d (.list ((keys o1).map npD))), none, none, none, none, none, none] ∧ s' = s) (nR (ix_kt k a b) (hk1 _ (by simp)) ⟨rfl, rfl⟩) ?_
      rintro ρ s' ⟨rfl, rfl⟩
      refine seq_cut (fun ρ s => ρ = [some (.d (Pol.two k a b).pd), some (.d (Pol.two k c d).pd), some (.d (.list [jdD a o1 bl1, jdD b o2 bl2])), some (.d (.list ((keys o1).map npD))), none, none, none, none, none, none] ∧ s = s') (nM (ix_kt k a b) (hk1 _ (by simp)) ⟨rfl, rfl⟩) ?_
      rintro ρ s ⟨rfl, rfl⟩
      refine kT (p2 := b) (comb_two k a b) (comb_two k c d) g2.1 g2.2 (by rw [keys_len]; exact g1.2) rfl ?_
      have hr : rawJ (.two k a b) (.two k c d) = some (twoO (twoN k) (twoN k) (keys o1) (keys o2)) := by
        show ((jog a c).bind fun o => (jog b d).map fun o' => twoO (twoN k) (twoN k) (keys o) (keys o')) = _
        rw [e1, e2]; rfl
      simp [og_notGone]
      exact h _ _ hr rfl
    | _ => exact absurd hF (by simp [Fm])
  | num k n a b =>
    cases q with
    | num k' m c d =>
      obtain ⟨o1, e1⟩ := hs (a, c) (by simp [Pol.inn])
      obtain ⟨o2, e2⟩ := hs (b, d) (by simp [Pol.inn])
      have g1 := jog_ok _ (Nat.le_refl _) hF.2.1 ho.2.1 e1
      have g2 := jog_ok _ (Nat.le_refl _) hF.2.2 ho.2.2 e2
      obtain ⟨bl1, j1⟩ := jdat_is a c
      obtain ⟨bl2, j2⟩ := jdat_is b d
      have e1 : jog a c = some o1 := e1
      have e2 : jog b d = some o2 := e2
      rw [e1] at j1
      rw [e2] at j2
      have eb : belowJ (.num k n a b) (.num k' m c d) = [jdD a o1 bl1, jdD b o2 bl2] := by show [jdat a c, jdat b d] = _; rw [j1, j2]; rfl
      have hk1 : ∀ w : String, w ∈ ["call", "wait", "retry", "timeout"] → gEq (.str k.s) (.str (Str.ofString w)) = some false := fun w hw => by
        simp at hw
        rcases hw with rfl | rfl | rfl | rfl <;> cases k <;> decide +kernel
      rw [eb]
      obtain rfl : k = k' := hF.1
      refine seq_cut (fun ρ s => ρ = [some (.d (Pol.num k n a b).pd), some (.d (Pol.num k m c d).pd), some (.d (.list [jdD a o1 bl1, jdD b o2 bl2])), none, none, none, none, none, none, none] ∧ s = st) (nC (ix_kn k n a b) (hk1 _ (by simp)) ⟨rfl, rfl⟩) ?_
      rintro ρ s ⟨rfl, rfl⟩
      refine seq_cut (fun ρ s' => ρ = [some (.d (Pol.num k n a b).pd), some (.d (Pol.num k m c d).pd), some (.d (.list [jdD a o1 bl1, jdD b o2 bl2])), none, none, none, none, none, none, none] ∧ s' = s) (nW (ix_kn k n a b) (hk1 _ (by simp)) ⟨rfl, rfl⟩) ?_
      rintro ρ s' ⟨rfl, rfl⟩
      refine seq_cut (fun ρ s => ρ = [some (.d (Pol.num k n a b).pd), some (.d (Pol.num k m c d).pd), some (.d (.list [jdD a o1 bl1, jdD b o2 bl2])), some (.d (.list ((keys o1).map npD))), none, none, none, none, none, none] ∧ s = s') (kP ⟨rfl, rfl⟩) ?_
      rintro ρ s ⟨rfl, rfl⟩
      refine seq_cut (fun ρ s' => ρ = [some (.d (Pol.num k n a b).pd), some (.d (Pol.num k m c d).pd), some (.d (.list [jdD a o1 bl1, jdD b o2 bl2])), some (.d (.list ((keys o1).map npD))), none, none, none, none, none, none] ∧ s' = s) (nR (ix_kn k n a b) (hk1 _ (by simp)) ⟨rfl, rfl⟩) ?_
      rintro ρ s' ⟨rfl, rfl⟩
      refine seq_cut (fun ρ s => ρ = [some (.d (Pol.num k n a b).pd), some (.d (Pol.num k m c d).pd), some (.d (.list [jdD a o1 bl1, jdD b o2 bl2])), some (.d (.list ((keys o1).map npD))), none, none, none, none, none, none] ∧ s = s') (nM (ix_kn k n a b) (hk1 _ (by simp)) ⟨rfl, rfl⟩) ?_
      rintro ρ s ⟨rfl, rfl⟩
      refine kT (p2 := b) (comb_num k n a b) (comb_num k m c d) g2.1 g2.2 (by rw [keys_len]; exact g1.2) rfl ?_
      have hr : rawJ (.num k n a b) (.num k m c d) = some (twoO (numN k n) (numN k m) (keys o1) (keys o2)) := by
        show ((jog a c).bind fun o => (jog b d).map fun o' => twoO (numN k n) (numN k m) (keys o) (keys o')) = _
        rw [e1, e2]; rfl
      simp [og_notGone]
      exact h _ _ hr rfl
    | _ => exact absurd hF (by simp [Fm])
  | retry us a =>
    cases q with
    | retry vs b =>
      obtain ⟨o1, e1⟩ := hs (a, b) (by simp [Pol.inn])
      have g1 := jog_ok _ (p := a) (q := b) (Nat.le_refl _) hF ho.2 e1
      obtain ⟨bl1, j1⟩ := jdat_is a b
      have e1 : jog a b = some o1 := e1
      rw [e1] at j1
      have eb : belowJ (.retry us a) (.retry vs b) = [jdD a o1 bl1] := by show [jdat a b] = _; rw [j1]; rfl
      rw [eb]
      refine seq_cut (fun ρ s => ρ = [some (.d (Pol.retry us a).pd), some (.d (Pol.retry vs b).pd), some (.d (.list [jdD a o1 bl1])), none, none, none, none, none, none, none] ∧ s = st) (nC (ix_kr us a) (by decide +kernel) ⟨rfl, rfl⟩) ?_
      rintro ρ s ⟨rfl, rfl⟩
      refine seq_cut (fun ρ s' => ρ = [some (.d (Pol.retry us a).pd), some (.d (Pol.retry vs b).pd), some (.d (.list [jdD a o1 bl1])), none, none, none, none, none, none, none] ∧ s' = s) (nW (ix_kr us a) (by decide +kernel) ⟨rfl, rfl⟩) ?_
      rintro ρ s' ⟨rfl, rfl⟩
      refine seq_cut (fun ρ s => ρ = [some (.d (Pol.retry us a).pd), some (.d (Pol.retry vs b).pd), some (.d (.list [jdD a o1 bl1])), some (.d (.list ((keys o1).map npD))), none, none, none, none, none, none] ∧ s = s') (kP ⟨rfl, rfl⟩) ?_
      rintro ρ s ⟨rfl, rfl⟩
      refine seq_cut (fun _ _ => False) ?_ fun _ _ z => False.elim z
      have hr : rawJ (.retry us a) (.retry vs b) = attO us vs (keys o1) (max us.length vs.length) := by
        show ((jog a b).bind fun o => attO us vs (keys o) (max us.length vs.length)) = _
        rw [e1]; rfl
      exact kR hp.1 hq.1 (keys_ne g1.1) (by rw [keys_len]; exact g1.2) (fun o ho => fin _ _ (by rw [hr]; exact ho) rfl (fun _ e => by cases e)) fun hn => hE (by rw [hr]; exact hn)
    | _ => exact absurd hF (by simp [Fm])
  | tmo n a =>
    cases q with
    | tmo m b =>
      obtain ⟨o1, e1⟩ := hs (a, b) (by simp [Pol.inn])
      have g1 := jog_ok _ (p := a) (q := b) (Nat.le_refl _) hF ho.2 e1
      obtain ⟨bl1, j1⟩ := jdat_is a b
      have e1 : jog a b = some o1 := e1
      rw [e1] at j1
      have eb : belowJ (.tmo n a) (.tmo m b) = [jdD a o1 bl1] := by show [jdat a b] = _; rw [j1]; rfl
      rw [eb]
      refine seq_cut (fun ρ s => ρ = [some (.d (Pol.tmo n a).pd), some (.d (Pol.tmo m b).pd), some (.d (.list [jdD a o1 bl1])), none, none, none, none, none, none, none] ∧ s = st) (nC (ix_km n a) (by decide +kernel) ⟨rfl, rfl⟩) ?_
      rintro ρ s ⟨rfl, rfl⟩
      refine seq_cut (fun ρ s' => ρ = [some (.d (Pol.tmo n a).pd), some (.d (Pol.tmo m b).pd), some (.d (.list [jdD a o1 bl1])), none, none, none, none, none, none, none] ∧ s' = s) (nW (ix_km n a) (by decide +kernel) ⟨rfl, rfl⟩) ?_
      rintro ρ s' ⟨rfl, rfl⟩
      refine seq_cut (fun ρ s => ρ = [some (.d (Pol.tmo n a).pd), some (.d (Pol.tmo m b).pd), some (.d (.list [jdD a o1 bl1])), some (.d (.list ((keys o1).map npD))), none, none, none, none, none, none] ∧ s = s') (kP ⟨rfl, rfl⟩) ?_
      rintro ρ s ⟨rfl, rfl⟩
      refine seq_cut (fun ρ s' => ρ = [some (.d (Pol.tmo n a).pd), some (.d (Pol.tmo m b).pd), some (.d (.list [jdD a o1 bl1])), some (.d (.list ((keys o1).map npD))), none, none, none, none, none, none] ∧ s' = s) (nR (ix_km n a) (by decide +kernel) ⟨rfl, rfl⟩) ?_
      rintro ρ s' ⟨rfl, rfl⟩
      refine seq_cut (fun _ _ => False) ?_ fun _ _ z => False.elim z
      have hr : rawJ (.tmo n a) (.tmo m b) = some (tmoO n m (keys o1)) := by
        show ((jog a b).map fun o => tmoO n m (keys o)) = _
        rw [e1]; rfl
      exact kM (by rw [keys_len]; exact g1.2) (fin _ _ hr rfl (fun _ e => by cases e))
    | _ => exact absurd hF (by simp [Fm])
end
theorem jog_part {p q : Pol} (hF : Fm p q) (hn : ∃ x ∈ p.inn.zip q.inn, jog x.1 x.2 = none) : jog p q = none := by
  obtain ⟨x, hx, hn⟩ := hn
  cases p with
  | call l g b hh => simp [Pol.inn] at hx
  | wait n => simp [Pol.inn] at hx
  | two k a b =>
    cases q with
    | two k' c d =>
      simp [Pol.inn] at hx
      show ((jog a c).bind fun o => (jog b d).bind fun o' => chk _) = none
      rcases hx with rfl | rfl
      · have hn : jog a c = none := hn
        rw [hn]; rfl
      · have hn : jog b d = none := hn
        rw [hn]
        cases jog a c <;> rfl
    | _ => exact absurd hF (by simp [Fm])
  | num k n a b =>
    cases q with
    | num k' m c d =>
      simp [Pol.inn] at hx
      show ((jog a c).bind fun o => (jog b d).bind fun o' => chk _) = none
      rcases hx with rfl | rfl
      · have hn : jog a c = none := hn
        rw [hn]; rfl
      · have hn : jog b d = none := hn
        rw [hn]
        cases jog a c <;> rfl
    | _ => exact absurd hF (by simp [Fm])
  | retry us a =>
    cases q with
    | retry vs b =>
      simp [Pol.inn] at hx
      subst hx
      show ((jog a b).bind fun o => _) = none
      have hn : jog a b = none := hn
      rw [hn]; rfl
    | _ => exact absurd hF (by simp [Fm])
  | tmo n a =>
    cases q with
    | tmo m b =>
      simp [Pol.inn] at hx
      subst hx
      show ((jog a b).bind fun o => _) = none
      have hn : jog a b = none := hn
      rw [hn]; rfl
    | _ => exact absurd hF (by simp [Fm])
theorem zipF_pd (as bs : List Pol) : zipF (as.map Pol.pd) (bs.map Pol.pd) = (as.zip bs).map fun x => PyData.tuple [x.1.pd, x.2.pd] := by
  induction as generalizing bs with
  | nil => rfl
  | cons a as ih =>
    cases bs with
    | nil => rfl
    | cons b bs =>
      show _ :: zipF (as.map Pol.pd) (bs.map Pol.pd) = _ :: _
      rw [ih]; rfl
theorem w_joint : ∀ (f : Nat) {p q : Pol} {st : Sto} {P : Rv → Sto → Prop} {E : Er → Sto → Prop}, p.depth ≤ f → 0 < st.length → Fm p q → p.Ok0 → JT p → p.Few 1000 → q.Few 1000 → (∀ o, jog p q = some o → P (.d (jdat p q)) st) → (jog p q = none → ∀ t, E TME (st ++ t)) → WVe E (semJ_joint_of f [.d p.pd, .d q.pd] st) P
  | 0, p, _, _, _, _, hd, _, _, _, _, _, _, _, _ => by cases p <;> (simp only [Pol.depth] at hd; omega)
  | f + 1, p, q, st, P, E, hd, h0, hF, ho, hj, hp, hq, h, hE => by
    have ihf := @w_joint f
    show WVe E (bodyF 6 2 (sbJ_joint_of (semJ_joint_of f)) _ _) P
    generalize semJ_joint_of f = sem at ihf ⊢
    unfold sbJ_joint_of
    rw [W_body]
    refine ⟨rfl, ?_⟩
    have kO := @w_orig
    have kI := @w_jinit
    generalize semJ_joint_origins = vO at kO ⊢
    generalize semJ_Joint___init__ = vI at kI ⊢
    obtain ⟨hz1, hz2⟩ := fm_inn hF
    refine seq_cut (fun ρ s => (ρ = [some (.d p.pd), some (.d q.pd), some (.d (.list (belowJ p q))), none, none, none] ∧ s = st) ∧ ∀ x ∈ p.inn.zip q.inn, ∃ o, jog x.1 x.2 = some o) ?_ ?_
    · simp [W_iZpE]
      refine WVe_any (w_inner ?_)
      simp
      refine WVe_any (w_inner ?_)
      simp [srcZp]
      rw [zipF_pd]
      have hl2 : (p.inn.zip q.inn).length ≤ 2 := by rw [List.length_zip]; have := inn_len p; omega
      refine lcGoE_by (I := fun i s acc => s = st ∧ acc = ((p.inn.zip q.inn).take i).map (fun x => jdat x.1 x.2) ∧ ∀ x ∈ (p.inn.zip q.inn).take i, ∃ o, jog x.1 x.2 = some o) _ 0 [] ⟨rfl, by simp, by simp⟩ (fun _ _ _ _ => trivial) ?_ ?_
      · rintro i d s acc hd' ⟨rfl, rfl, hes⟩
        rw [List.getElem?_map] at hd'
        obtain ⟨x, hx, rfl⟩ := Option.map_eq_some_iff.mp hd'
        have hm := List.mem_of_getElem? hx
        have hm2 := List.of_mem_zip hm
        have h1 := inn_depth hm2.1
        rw [Nat.zero_add] at hes ⊢
        simp [wipeE]
        refine ihf (by omega) h0 (hz2 x hm) (inn_ok0 ho hm2.1) (inn_jt hj hm2.1) (inn_few hp hm2.1) (inn_few hq hm2.2) (fun o hz => ?_) fun hz t => ?_
        · simp [szl]
          refine ⟨by have := (List.getElem?_eq_some_iff.mp hx).1; omega, ?_, ?_⟩
          · rw [List.take_succ, List.getElem?_map, hx]; simp
          · rw [List.take_succ, hx]
            intro a b hab
            rcases List.mem_append.mp hab with hab | hab
            · exact hes _ hab
            · simp at hab
              subst hab
              exact ⟨o, hz⟩
        · have := hE (jog_part hF ⟨x, hm, hz⟩) []
          simpa using this
      · rintro s acc ⟨rfl, rfl, hes⟩
        rw [Nat.zero_add, List.length_map, List.take_length] at hes ⊢
        exact ⟨⟨rfl, rfl⟩, fun a b h => hes (a, b) h⟩
    rintro ρ s ⟨⟨rfl, rfl⟩, hs⟩
    refine seq_cut (fun ρ s' => ∃ o, (ρ = [some (.d p.pd), some (.d q.pd), some (.d (.list (belowJ p q))), some (.d (.dict (ogD o))), none, none] ∧ s' = s) ∧ rawJ p q = some o) ?_ ?_
    · simp
      refine kO hF hs ho hj hp hq rfl (fun o v h1 h2 => ?_) fun hn t => ?_
      · exact ⟨o, ⟨h2, rfl⟩, h1⟩
      · have := hE (by rw [jog_raw hF ho, hn]; rfl) []
        simpa using this
    rintro ρ s' ⟨o, ⟨rfl, rfl⟩, hr⟩
    refine seq_cut (fun ρ s => (ρ = [some (.d p.pd), some (.d q.pd), some (.d (.list (belowJ p q))), some (.d (.dict (ogD o))), none, none] ∧ s = s') ∧ o.length ≤ 200) ?_ ?_
    · simp [gnK_og]
      refine w_check _ (fun hc => ?_) fun hc => ?_
      · simp
        rw [og_len] at hc
        omega
      · rw [og_len] at hc
        have := hE (by rw [jog_raw hF ho, hr]; exact chk_no (by omega)) []
        simpa using this
    rintro ρ s ⟨⟨rfl, rfl⟩, hc⟩
    simp [W_mMakeD]
    have hjg : jog p q = some o := by rw [jog_raw hF ho, hr]; exact chk_ok hc
    refine w_insR (kI h0 _ _ _) h0 rfl ?_
    have := h o hjg
    rw [jdat_eq hF, hjg] at this
    rw [List.take_length]
    exact this
end Cp.Jt
/-! Ps9: is_policy where labels may come twice; numbers put and put back. -/
namespace Cp
open PySem L2
end Cp
/-! Jw10: two policies of one form; joint endings in order; whether two policies run alike. -/
namespace Cp
open PySem L2
end Cp
namespace Cp.Jt
open PySem L2 Cp
theorem eqv_sp (g g' : Span) : PyData.eqv (spD g) (spD g') = decide (g = g') := by
  rcases g with _ | ⟨a, b⟩ <;> rcases g' with _ | ⟨c, d⟩ <;> simp [spD, PyData.eqv, PyData.eqvAll]
  by_cases h1 : a = c <;> by_cases h2 : b = d <;> simp [h1, h2]
theorem eqv_bb (a b : Bool) : PyData.eqv (.bool a) (.bool b) = decide (a = b) := by cases a <;> cases b <;> rfl
theorem hnil : PyData.eqvAll [] [] = true := rfl
theorem fm_iff : ∀ (p q : Pol), fmB p q = true ↔ Fm p q
  | .call l g b h, q => by
    unfold fmB
    cases q with
    | call l' g' b' h' =>
      simp only [Pol.wn, Pol.pd, eqvTup, PyData.eqvAll, eqv_str, eqv_sp, eqv_bb, Fm, Bool.and_eq_true, decide_eq_true_eq, Bool.and_true]
      constructor
      · rintro ⟨_, rfl, rfl, rfl, rfl⟩
        rfl
      · intro e
        injection e with e1 e2 e3 e4
        exact ⟨trivial, e1.symm, e2.symm, e3.symm, e4.symm⟩
    | two k _ _ => cases k <;> simp [Fm, Pol.wn, Pol.pd, eqvTup, eqvLst, eqvT, Two.t, Two.s, eqv_str]
    | num k _ _ _ => cases k <;> simp [Fm, Pol.wn, Pol.pd, eqvTup, eqvLst, eqvT, Num.t, Num.s, eqv_str]
    | _ => simp [Fm, Pol.wn, Pol.pd, eqvTup, eqvLst, eqvT, eqv_str]
  | .wait n, q => by
    unfold fmB
    cases q with
    | two k _ _ => cases k <;> simp [Fm, Pol.wn, Pol.pd, eqvTup, eqvLst, eqvT, Two.t, Two.s, eqv_str]
    | num k _ _ _ => cases k <;> simp [Fm, Pol.wn, Pol.pd, eqvTup, eqvLst, eqvT, Num.t, Num.s, eqv_str]
    | wait _ => exact ⟨fun _ => trivial, fun _ => rfl⟩
    | _ => simp [Fm, Pol.wn, Pol.pd, eqvTup, eqvLst, eqvT, eqv_str]
  | .two k a b, q => by
    unfold fmB
    cases q with
    | two k2 a2 b2 =>
      have h1 := fm_iff a a2
      have h2 := fm_iff b b2
      unfold fmB at h1 h2
      cases k <;> cases k2 <;> simp [Fm, Pol.wn, eqvTup, eqvLst, eqvT, Two.t, Two.s, eqv_str, h1, h2, hnil]
    | num k2 _ _ _ => cases k <;> cases k2 <;> simp [Fm, Pol.wn, Pol.pd, eqvTup, eqvLst, eqvT, Two.t, Two.s, Num.t, Num.s, eqv_str]
    | _ => cases k <;> simp [Fm, Pol.wn, Pol.pd, eqvTup, eqvLst, eqvT, Two.t, Two.s, eqv_str]
  | .num k n a b, q => by
    unfold fmB
    cases q with
    | num k2 n2 a2 b2 =>
      have h1 := fm_iff a a2
      have h2 := fm_iff b b2
      unfold fmB at h1 h2
      have h0 : PyData.eqv .none .none = true := rfl
      cases k <;> cases k2 <;> simp [Fm, Pol.wn, eqvTup, eqvLst, eqvT, Num.t, Num.s, eqv_str, h0, h1, h2, hnil]
    | two k2 _ _ => cases k <;> cases k2 <;> simp [Fm, Pol.wn, Pol.pd, eqvTup, eqvLst, eqvT, Two.t, Two.s, Num.t, Num.s, eqv_str]
    | _ => cases k <;> simp [Fm, Pol.wn, Pol.pd, eqvTup, eqvLst, eqvT, Num.t, Num.s, eqv_str]
  | .retry ps a, q => by
    unfold fmB
    cases q with
    | retry ps2 a2 =>
      have h1 := fm_iff a a2
      unfold fmB at h1
      have h0 : PyData.eqv .none .none = true := rfl
      simp [Fm, Pol.wn, eqvTup, eqvLst, eqvT, h0, h1, eqv_str, hnil]
    | two k _ _ => cases k <;> simp [Fm, Pol.wn, Pol.pd, eqvTup, eqvLst, eqvT, Two.t, Two.s, eqv_str]
    | num k _ _ _ => cases k <;> simp [Fm, Pol.wn, Pol.pd, eqvTup, eqvLst, eqvT, Num.t, Num.s, eqv_str]
    | _ => simp [Fm, Pol.wn, Pol.pd, eqvTup, eqvLst, eqvT, eqv_str]
  | .tmo n a, q => by
    unfold fmB
    cases q with
    | tmo n2 a2 =>
      have h1 := fm_iff a a2
      unfold fmB at h1
      have h0 : PyData.eqv .none .none = true := rfl
      simp [Fm, Pol.wn, eqvTup, eqvLst, eqvT, h0, h1, eqv_str, hnil]
    | two k _ _ => cases k <;> simp [Fm, Pol.wn, Pol.pd, eqvTup, eqvLst, eqvT, Two.t, Two.s, eqv_str]
    | num k _ _ _ => cases k <;> simp [Fm, Pol.wn, Pol.pd, eqvTup, eqvLst, eqvT, Num.t, Num.s, eqv_str]
    | _ => simp [Fm, Pol.wn, Pol.pd, eqvTup, eqvLst, eqvT, eqv_str]
/-! ### the order of joint endings -/
def ekL : Nd → List Int
  | none => [1, 0, 0]
  | some p => [0, p.1, if p.2 then 1 else 0]
def ekD (e : Nd) : PyData := .tuple ((ekL e).map PyData.int)
def pkD (x : Np) : PyData := .tuple [ekD x.1, ekD x.2]
def npLt (x y : Np) : Bool := if ekL x.1 = ekL y.1 then decide (ekL x.2 < ekL y.2) else decide (ekL x.1 < ekL y.1)
noncomputable def jsort (xs : List Np) : List Np := xs.mergeSort fun a b => PySem.W.dataLe false Prod.snd (npD a, pkD a) (npD b, pkD b)
theorem jsort_perm (xs : List Np) : (jsort xs).Perm xs := List.mergeSort_perm _ _
section
variable {st : Sto} {P : Rv → Sto → Prop} {E : Er → Sto → Prop} {ρ : En}
theorem w_ekey {e : Nd} (h : P (.d (ekD e)) st) : WVe E (semJ_ending_key [.d (ndD e)] st) P := by
  unfold semJ_ending_key sbJ_ending_key
  rw [W_body]
  refine ⟨rfl, ?_⟩
  rcases e with _ | ⟨x, _ | _⟩
  · simp [gIsN, szl]; exact h
  · simp [gIsN, szl]; exact h
  · simp [gIsN, szl]; exact h
theorem w_pkey {x : Np} (h : P (.d (pkD x)) st) : WVe E (semJ_pair_key [.d (npD x)] st) P := by
  unfold semJ_pair_key sbJ_pair_key
  rw [W_body]
  refine ⟨rfl, ?_⟩
  simp [ix_np0]
  refine w_ekey ?_
  simp [ix_np1]
  refine w_ekey ?_
  simp [szl]
  exact h
theorem alike_ints : ∀ xs ys : List Int, PySem.W.alike (.tuple (xs.map PyData.int)) (.tuple (ys.map PyData.int)) = true := fun xs ys => PySem.W.alike_ints xs ys
theorem alike_pk (x y : Np) : PySem.W.alike (pkD x) (pkD y) = true := by
  show (PySem.W.alike (ekD x.1) (ekD y.1) && (PySem.W.alike (ekD x.2) (ekD y.2) && PySem.W.alikeAll [] [])) = true
  rw [show PySem.W.alike (ekD x.1) (ekD y.1) = true from alike_ints _ _, show PySem.W.alike (ekD x.2) (ekD y.2) = true from alike_ints _ _]
  rfl
theorem keys_pk : ∀ xs : List Np, keysOf semJ_pair_key st (xs.map npD) = some (xs.map pkD)
  | [] => rfl
  | x :: xs => by
    have h : WVe noE (semJ_pair_key [.d (npD x)] st) fun v s => v = .d (pkD x) ∧ s = st := w_pkey ⟨rfl, rfl⟩
    show keysOf semJ_pair_key st (npD x :: xs.map npD) = _
    unfold keysOf
    cases e : semJ_pair_key [.d (npD x)] st with
    | no => rw [e] at h; exact False.elim h
    | er a b => rw [e] at h; exact False.elim h
    | ok v s =>
      rw [e, WV_ok] at h
      obtain ⟨rfl, h2⟩ := h
      have ih := keys_pk xs
      rw [h2]
      simp only [List.take_length, if_true, ih]
      rfl
theorem srtk_pk (xs : List Np) : Srtk (xs.map pkD) :=
  ⟨PySem.W.AllAlike.of alike_pk, PySem.W.Sortable.tuples fun b => ⟨_, _, rfl⟩, fun d hd => by
    obtain ⟨x, _, rfl⟩ := List.mem_map.mp hd
    obtain ⟨a, b⟩ := x
    rcases a with _ | ⟨a, _ | _⟩ <;> rcases b with _ | ⟨b, _ | _⟩ <;> simp [pkD, ekD, ekL, PyData.depth, PyData.depthAll]⟩
theorem sortK_pk (xs : List Np) : sortK (xs.map npD) (xs.map pkD) = (jsort xs).map npD := by
  unfold sortK jsort
  have e : (xs.map npD).zip (xs.map pkD) = xs.map fun x => (npD x, pkD x) := by
    induction xs with
    | nil => rfl
    | cons x xs ih => simp only [List.map_cons, List.zip_cons_cons, ih]
  rw [e]
  have := List.map_mergeSort (f := fun x : Np => (npD x, pkD x)) (s := PySem.W.dataLe false Prod.snd) (r := fun a b => PySem.W.dataLe false Prod.snd (npD a, pkD a) (npD b, pkD b)) (l := xs) fun a _ b _ => rfl
  rw [← this, List.map_map]
  rfl
theorem srtKD_og {s : Sto} (o : Og) : fSrtKD semJ_pair_key s (.d (.dict (ogD o))) = some (.n (.l ((jsort (Cp.Jt.keys o)).map npD))) := by
  unfold fSrtKD
  simp only [gnK_og, if_true, og_keys, keys_pk]
  rw [if_pos (srtk_pk _), sortK_pk]
end
end Cp.Jt
/-! Jw11: joint endings, whether two policies run alike. -/
namespace Cp.Jt
open PySem L2 Cp
def DFE : Er := ⟨Str.ofString "DifferentForms", none⟩
structure PJ (p : Pol) : Prop where
  node : p.All Pol.Node
  dep : p.depth ≤ 12
  ok : p.Ok0
  jt : JT p
  few : p.Few 1000
section
variable {st : Sto} {P : Rv → Sto → Prop} {E : Er → Sto → Prop} {ρ : En} {p q : Pol}
theorem w_jpol (hp : PJ p) (hq : PJ q) (h0 : 0 < st.length) (h1 : Fm p q → ∀ o, jog p q = some o → P (.d (jdat p q)) st) (h2 : Fm p q → jog p q = none → E TME st) (h3 : ¬Fm p q → E DFE st) :
    WVe E (semJ_joint_of_policies [.d p.pd, .d q.pd] st) P := by
  have kj := @w_joint 12
  unfold semJ_joint_of_policies sbJ_joint_of_policies
  generalize semJ_joint_of 12 = J at kj ⊢
  rw [W_body]
  refine ⟨rfl, ?_⟩
  refine seq_cut (fun ρ s => (ρ = [some (.d p.pd), some (.d q.pd)] ∧ s = st) ∧ Fm p q) ?_ ?_
  · simp
    refine WVe_any (w_same hp.node hq.node (by have := hp.dep; omega) (by have := hq.dep; omega) ?_)
    by_cases hF : Fm p q
    · simp [(fm_iff p q).mpr hF]
      exact hF
    · have : fmB p q = false := by
        cases e : fmB p q with
        | false => rfl
        | true => exact absurd ((fm_iff p q).mp e) hF
      simp [this]
      exact h3 hF
  rintro ρ s ⟨⟨rfl, rfl⟩, hF⟩
  simp
  refine kj hp.dep h0 hF hp.ok hp.jt hp.few hq.few (fun o ho => ?_) fun hn t => ?_
  · simp
    exact h1 hF o ho
  · simpa using h2 hF hn
theorem w_jend (hp : PJ p) (hq : PJ q) (h0 : 0 < st.length) (h1 : Fm p q → ∀ o, jog p q = some o → P (.d (.tuple ((jsort (Cp.Jt.keys o)).map npD))) st) (h2 : Fm p q → jog p q = none → E TME st) (h3 : ¬Fm p q → E DFE st) :
    WVe E (semJ_joint_endings [.d p.pd, .d q.pd] st) P := by
  unfold semJ_joint_endings sbJ_joint_endings
  rw [W_body]
  refine ⟨rfl, ?_⟩
  simp [W_mSrtKD]
  refine w_jpol hp hq h0 (fun hF o ho => ?_) (fun hF hn => by simpa using h2 hF hn) fun hF => by simpa using h3 hF
  obtain ⟨bl, e⟩ := jdat_is p q
  rw [ho] at e
  simp [e, fld_og, srtKD_og]
  exact h1 hF o ho
theorem lay_np (x : Np) : (npD x).canLay0 = true ∧ (npD x).depth ≤ 3 := by
  have hs : ∀ o : Bool, (PyData.str (okW o)).canLay0 = true := fun o => canLay_ok (show Sgn (okW o) by cases o <;> exact sgn_ofS _)
  have hn : ∀ e : Nd, (ndD e).canLay0 = true ∧ (ndD e).depth ≤ 1 := fun e => by
    rcases e with _ | ⟨a, o⟩
    · exact ⟨rfl, by decide⟩
    · refine ⟨?_, by simp [ndD, PyData.depth, PyData.depthAll]⟩
      show ((PyData.int a).canLay0 && ((PyData.str (okW o)).canLay0 && PyData.canLayAll0 [])) = true
      rw [hs]; rfl
  refine ⟨?_, ?_⟩
  · show ((ndD x.1).canLay0 && ((ndD x.2).canLay0 && PyData.canLayAll0 [])) = true
    rw [(hn x.1).1, (hn x.2).1]; rfl
  · have h1 := (hn x.1).2
    have h2 := (hn x.2).2
    simp only [npD, PyData.depth, PyData.depthAll]
    omega
end
end Cp.Jt
/-! V38b: joint endings shown, put in order; the table's cases. -/
namespace Cp.Jt
open PySem L2 Cp
def npLe (x y : Np) : Bool := !npLt y x
theorem le_np (a b : Np) : PySem.W.dataLe false Prod.snd (npD a, pkD a) (npD b, pkD b) = npLe a b := by
  show (!PySem.W.dataLt (pkD b) (pkD a)) = _
  unfold npLe npLt pkD
  have hi : ∀ x y : Nd, PyData.eqv (ekD x) (ekD y) = decide (ekL x = ekL y) := fun x y => by
    rcases x with _ | ⟨x, _ | _⟩ <;> rcases y with _ | ⟨y, _ | _⟩ <;> simp [ekD, ekL, PyData.eqv, PyData.eqvAll]
    all_goals (by_cases hxy : x = y <;> simp [hxy])
  have hl : ∀ x y : Nd, PySem.W.dataLt (ekD x) (ekD y) = decide (ekL x < ekL y) := fun x y => by
    unfold ekD
    rw [PySem.W.dataLt_tuple]; exact PySem.W.dataLt_ints _ _
  have al : ∀ x y : Nd, PySem.W.alike (ekD x) (ekD y) = true := fun x y => alike_ints _ _
  rw [PySem.W.dataLt_pair (al _ _) (al _ _), hi, hi, hl, hl]
  by_cases h1 : ekL b.1 = ekL a.1
  · rw [if_pos (decide_eq_true h1), if_pos h1]
    by_cases h2 : ekL b.2 = ekL a.2
    · rw [if_pos (decide_eq_true h2), h2]; simp
    · rw [if_neg (by simpa using h2)]
  · rw [if_neg (by simpa using h1), if_neg h1]
theorem jsort_le (xs : List Np) : jsort xs = xs.mergeSort npLe := by
  unfold jsort
  have : (fun a b => PySem.W.dataLe false Prod.snd (npD a, pkD a) (npD b, pkD b)) = npLe := by funext a b; exact le_np a b
  rw [this]
theorem ekL_inj {a b : Nd} (h : ekL a = ekL b) : a = b := by
  rcases a with _ | ⟨a, _ | _⟩ <;> rcases b with _ | ⟨b, _ | _⟩ <;> simp [ekL] at h ⊢
  all_goals (rcases h with rfl; rfl)
theorem npLe_iff (x y : Np) : npLe x y = true ↔ ekL x.1 < ekL y.1 ∨ (ekL x.1 = ekL y.1 ∧ ekL x.2 ≤ ekL y.2) := by
  unfold npLe npLt
  by_cases h : ekL y.1 = ekL x.1
  · rw [if_pos h]
    simp [h]
    exact fun h => absurd h (List.lt_irrefl _)
  · rw [if_neg h]
    have h' : ekL x.1 ≠ ekL y.1 := fun e => h e.symm
    simp only [Bool.not_eq_true', decide_eq_false_iff_not, h', false_and, or_false]
    constructor
    · intro h2
      rcases List.le_iff_lt_or_eq.mp (List.not_lt.mp h2) with h3 | h3
      · exact h3
      · exact absurd h3 h'
    · intro h2 h3
      exact List.lt_irrefl _ (List.lt_trans h2 h3)
theorem npLe_trans (a b c : Np) (h1 : npLe a b = true) (h2 : npLe b c = true) : npLe a c = true := by
  rw [npLe_iff] at *
  rcases h1 with h1 | ⟨h1, h1'⟩ <;> rcases h2 with h2 | ⟨h2, h2'⟩
  · exact .inl (List.lt_trans h1 h2)
  · exact .inl (h2 ▸ h1)
  · exact .inl (h1 ▸ h2)
  · exact .inr ⟨h1.trans h2, List.le_trans h1' h2'⟩
theorem npLe_total (a b : Np) : (npLe a b || npLe b a) = true := by
  rw [Bool.or_eq_true, npLe_iff, npLe_iff]
  by_cases h : ekL a.1 = ekL b.1
  · rcases List.le_total (ekL a.2) (ekL b.2) with h2 | h2
    · exact .inl (.inr ⟨h, h2⟩)
    · exact .inr (.inr ⟨h.symm, h2⟩)
  · rcases List.le_total (ekL a.1) (ekL b.1) with h2 | h2
    · exact .inl (.inl ((List.le_iff_lt_or_eq.mp h2).resolve_right h))
    · exact .inr (.inl ((List.le_iff_lt_or_eq.mp h2).resolve_right fun e => h e.symm))
theorem npLe_anti {a b : Np} (h1 : npLe a b = true) (h2 : npLe b a = true) : a = b := by
  rw [npLe_iff] at *
  have e1 : ekL a.1 = ekL b.1 := by
    rcases h1 with h1 | h1
    · rcases h2 with h2 | h2
      · exact absurd (List.lt_trans h1 h2) (List.lt_irrefl _)
      · rw [h2.1] at h1; exact absurd h1 (List.lt_irrefl _)
    · exact h1.1
  have g1 := (h1.resolve_left fun h => by rw [e1] at h; exact List.lt_irrefl _ h).2
  have g2 := (h2.resolve_left fun h => by rw [e1] at h; exact List.lt_irrefl _ h).2
  exact Prod.ext (ekL_inj e1) (ekL_inj (List.le_antisymm g1 g2))
/-- what is in order -/
theorem jsort_is {xs ys : List Np} (hp : ys.Perm xs) (hs : ys.Pairwise fun a b => npLe a b = true) : jsort xs = ys := by
  rw [jsort_le]
  have h1 : (xs.mergeSort npLe).Pairwise fun a b => npLe a b = true := List.pairwise_mergeSort npLe_trans npLe_total xs
  exact ((List.mergeSort_perm xs npLe).trans hp.symm).eq_of_pairwise (fun a b _ _ h1 h2 => npLe_anti h1 h2) h1 hs
/-! ### texts in order -/
theorem srt_T (xs : List Str) : fSorted (.list (xs.map PyData.str)) = some (.n (.l ((sortS xs).map PyData.str))) := by
  unfold fSorted
  simp only [itemsD]
  have hs : Srt (xs.map PyData.str) := by
    refine ⟨PySem.W.AllAlike.of fun a b => rfl, .inl (.inr fun d hd => ?_), fun d hd => ?_⟩
    · obtain ⟨k, _, rfl⟩ := List.mem_map.mp hd
      exact ⟨by simp, fun _ => by simp⟩
    · obtain ⟨k, _, rfl⟩ := List.mem_map.mp hd
      simp [PyData.depth]
  rw [if_pos hs]
  have e := List.map_mergeSort (f := PyData.str) (s := PySem.W.dataLe false fun d => d) (r := fun a b => PySem.W.dataLe false (fun d => d) (.str a) (.str b)) (l := xs) fun a _ b _ => rfl
  rw [← e]
  have : (fun a b : Str => PySem.W.dataLe false (fun d => d) (.str a) (.str b)) = leS := by
    funext a b
    show (!PySem.W.dataLt (.str b) (.str a)) = _
    rw [PySem.W.dataLt_str]
    unfold leS
    by_cases h : a.cps.toList ≤ b.cps.toList
    · rw [decide_eq_true h, decide_eq_false (List.not_lt.mpr h)]; rfl
    · rw [decide_eq_false h, decide_eq_true (List.not_le.mp h)]; rfl
  rw [this]
  rfl
theorem sortS_perm {xs ys : List Str} (h : xs.Perm ys) : sortS xs = sortS ys := by
  obtain ⟨h1, h2⟩ := sortS_ok xs
  obtain ⟨g1, g2⟩ := sortS_ok ys
  exact ((h1.trans h).trans g1.symm).eq_of_pairwise (fun a b _ _ h1 h2 => leS_anti h1 h2) h2 g2
/-! ### joint endings shown -/
def swp (x : Np) : Np := (x.2, x.1)
/-- moments that can be shown -/
def NdS (e : Nd) : Prop := ∀ p, e = some p → p.1.natAbs.log2 < 1920
theorem nd_okS {e : Nd} (he : NdS e) : okS (ndD e) ∧ siz (ndD e) ≤ 2000 := by
  rcases e with _ | ⟨a, o⟩
  · exact ⟨trivial, by decide⟩
  · have h := he _ rfl
    refine ⟨⟨h, (show Sgn (okW o) by cases o <;> exact sgn_ofS _), trivial⟩, ?_⟩
    have h2 : siz (.str (okW o)) ≤ 42 := by cases o <;> decide +kernel
    have h : a.natAbs.log2 < 1920 := h
    show a.natAbs.log2 + 2 + 2 + (siz (.str (okW o)) + 2 + 0) + 3 ≤ 2000
    omega
theorem np_okS {x : Np} (h1 : NdS x.1) (h2 : NdS x.2) : okS (npD x) ∧ siz (npD x) ≤ 5000 := by
  have g1 := nd_okS h1
  have g2 := nd_okS h2
  refine ⟨⟨g1.1, g2.1, trivial⟩, ?_⟩
  show siz (ndD x.1) + 2 + (siz (ndD x.2) + 2 + 0) + 3 ≤ 5000
  omega
def NpsS (xs : List Np) : Prop := ∀ x ∈ xs, NdS x.1 ∧ NdS x.2
theorem nps_okS : ∀ {xs : List Np}, NpsS xs → okSs (xs.map npD) ∧ sizAll (xs.map npD) ≤ xs.length * 5002 ∧ PyData.depthAll (xs.map npD) ≤ 3
  | [], _ => ⟨trivial, Nat.zero_le _, by decide⟩
  | x :: xs, h => by
    have g1 := np_okS (h x (by simp)).1 (h x (by simp)).2
    have g2 := nps_okS (xs := xs) fun y hy => h y (List.mem_cons_of_mem _ hy)
    have g3 := (lay_np x).2
    refine ⟨⟨g1.1, g2.1⟩, ?_, ?_⟩
    · show siz (npD x) + 2 + sizAll (xs.map npD) ≤ _
      rw [List.length_cons]; omega
    · simp only [List.map_cons, PyData.depthAll]; omega
theorem show_np {x : Np} (h1 : NdS x.1) (h2 : NdS x.2) : fRepr (npD x) = some (.d (.str (npD x).shown)) := by
  have g := np_okS h1 h2
  exact fRepr_at g.1 (by rw [szl]; omega) (by have := (lay_np x).2; omega)
theorem show_nps {xs : List Np} (h : NpsS xs) (hl : xs.length ≤ 1000) : fRepr (.tuple (xs.map npD)) = some (.d (.str (PyData.tuple (xs.map npD)).shown)) ∧ Sgn (PyData.tuple (xs.map npD)).shown := by
  have g := nps_okS h
  have ho : okS (.tuple (xs.map npD)) := g.1
  refine ⟨fRepr_at ho (by rw [szl]; show sizAll (xs.map npD) + 3 ≤ _; omega) (by simp only [PyData.depth]; omega), shown_sgn ho⟩
end Cp.Jt
/-! Cf_value: an own error made with one value, kept as its field value. -/
namespace Cfvalue
open PySem PySem.W PySem.Calls PyProof.Rows PySem.HandSPX
def iA (p1 p2 : Pos) : Arguments := { posonlyargs := [], args := [{ arg := "self", annotation := none, pos := p1 }, { arg := "value", annotation := none, pos := p2 }], vararg := none, kwonlyargs := [], kw_defaults := [], kwarg := none, defaults := [] }
def iB (q1 q2 q3 q4 : Pos) : List Stmt := [.Assign [.Attribute (.Name "self" q1) "value" q2] (.Name "value" q3) q4]
def iS : Scope := { kind := .function, names := [(PySem.Str.ofString "self", .local), (PySem.Str.ofString "value", .local)], isGenerator := false, isCoroutine := false, more := [] }
/-- what the written part says of the class at C, and of its __init__, at fI -/
structure Txt (K : Frag) (C fI : Addr) (ql : Str) : Prop where
  cls : ∃ nm q N bs bm sn sub ab col dd k0 k1 k2 k3 k5, K.lookup C = some (excClassObj nm q C N bs bm true sn sub ab col dd k0 k1 k2 k3 k5 "ValueError.__new__") ∧ refsVE bm = true
  sa : findIn K (.ref C) "__setattr__" = some (some (.builtin "object.__setattr__"))
  noN : findIn K (.ref C) "value" = some none
  iC : findIn K (.ref C) "__init__" = some (some (.ref fI))
  tC : typeIn K (.ref fI) = some (.type "function")
  kC : keepIn K (.ref C) = true
  exC : subIn K (.ref C) (.type "BaseException") = some true
  tyC : typeIn K (.ref C) = some (.type "type")
  fn : ∃ (oc : Value) (od : Option Addr) (kV doc pm : Value) (an : Option Addr) (cdv ct : Value) (osl : Array (Option Value)) (p1 p2 q1 q2 q3 q4 : Pos),
    K.lookup fI = some ⟨oc, od, .func (fnOf "__init__" ql (iA p1 p2) (iB q1 q2 q3 q4) iS .none kV doc pm an cdv ct), osl⟩ ∧ codeIn K cdv ql = true
theorem one_size (v : Value) : [v].length ≤ sizeLine := by
  rw [sizeLine_eq]
  exact (by decide : 1 ≤ 16777216)
theorem ldC {M : Model} {s : Shared} {name : Str} {scope : Scope} {L a : Addr} {cd : Value} {m : Str → Option Value} {x : Str} {pos : Pos} {v : Value} {Q : Value → Shared → Prop} {A : Around} {E : Value → Shared → Prop} (hn : s.heap.Ns L m) (hv : m x = some v) (h : Q v s)
    (hk : scope.kind = .function := by rfl) (hl : (envOfC name scope L a cd).kindOf x = some .local := by rfl) (hd : (x == ("__debug__" : Str)) = false := by decide) :
    wpAny M A (eval (.Name x pos) (envOfC name scope L a cd)) Q E s := wpAny_Name (wpAny_loadName_local hk hl hn hv h) hd
structure InitEnd (h h' : Heap) (x C dx t1 : Addr) (v : Value) : Prop where
  keep : ∀ b o, b ≠ x → h.get? b = some o → h'.get? b = some o
  obj : h'.get? x = some { cls := .ref C, dict := some dx, data := .fields #[.ref t1, .none, .none, .none, .bool false, .none] }
  dbig : h.objs.size ≤ dx
  dne : dx ≠ x
  ns : h'.Ns1 dx (fun y => if y = "value" then some v else none)
structure OwnMade (h h' : Heap) (e C d : Addr) (v : Value) : Prop where
  keep : ∀ b o, h.get? b = some o → h'.get? b = some o
  new : h.objs.size ≤ e
  obj : ∃ oe vs, h'.get? e = some oe ∧ oe.cls = .ref C ∧ oe.dict = some d ∧ oe.data = .fields vs ∧ vs[1]? = some .none
  dbig : h.objs.size ≤ d
  dne : d ≠ e
  ns : h'.Ns1 d (fun y => if y = "value" then some v else none)
section
variable {prog : Program} {w : World} {A : Around} {E : Value → Shared → Prop} {R : Result → Shared → Prop} {s : Shared} {K : Frag} {C fI : Addr} {ql : Str}
theorem init (T : Txt K C fI ql) {x t0 : Addr} {v : Value} (X : K.In s.heap) (hlim : s.heap.NoLimit) (hx : s.heap.get? x = some (excO C t0)) (hnx : K.lookup x = none) (hroom : A.depth < recursionLimit)
    (hq : ∀ h' tk dx, InitEnd s.heap h' x C dx t0 v → R (.ok (.ret .none)) { s with heap := h', toks := tk }) :
    codeAny (model prog w) A (.call (.ref fI) ⟨[.ref x, v], []⟩) R s := by
  obtain ⟨oc, od, kV, doc, pm, an, cdv, ct, osl, p1, p2, q1, q2, q3, q4, ho, hcd⟩ := T.fn
  obtain ⟨nm, q, N, bs, bm, sn, sub, ab, col, dd, k0, k1, k2, k3, k5, hC, hbm⟩ := T.cls
  have hcl : clsIn K C = some { name := nm, bases := bs, mro := .ref C :: bm, ns := N, qualname := q, hasDict := true, slotNames := sn, subclasses := sub, abstract := ab, collection := col, hasDel := false } := by unfold clsIn; rw [hC] <;> rfl
  refine Att.call_fn (binds := [("self", .ref x), ("value", v)]) X hlim ho hcd hroom (BindsTo.of_eq (by first | rfl | with_unfolding_all rfl)) (by first | rfl | decide | with_unfolding_all rfl) (fun s₁ IC => ?_) rfl rfl rfl
  obtain ⟨h₁, tk₁, rfl⟩ := IC.toInCall.same
  have k : ∀ b o, s.heap.get? b = some o → h₁.get? b = some o := IC.toInCall.keep
  have hn := IC.toInCall.ns
  have hxL : s.heap.objs.size ≠ x := Nat.ne_of_gt (Heap.lt_size hx)
  have X₁ : K.In h₁ := X.keeps k
  have hx₁ := k _ _ hx
  show wpAny _ _ (execs _ _) _ _ _
  refine wpAny_execs_cons (plainObj_wpAny_Assign_Attribute ?_)
  refine ldC (v := v) hn (by first | rfl | with_unfolding_all rfl | kernel_rfl) (ldC (v := .ref x) hn (by first | rfl | with_unfolding_all rfl | kernel_rfl) ?_)
  refine set_plain X₁ (ox := excO C t0) (od := none) ⟨hx₁, rfl, rfl, trivial⟩ T.sa ?_
  refine exc_osa X₁ hx₁ hcl (show refsVE (.ref C :: bm) = true from hbm) rfl T.noN (fun h₃ tk₃ dx k₃ dn dne hx₃ hn₃ => ?_)
  show wpAny _ _ (execs _ _) _ _ _
  have z : s.heap.objs.size < h₁.objs.size := hn.lt
  exact wpAny_execs_nil (hq h₃ tk₃ dx ⟨fun b o hb e => k₃ b o hb (k b o e), hx₃, Nat.le_of_lt (Nat.lt_of_lt_of_le z dn), dne, hn₃⟩)
theorem made (T : Txt K C fI ql) {v : Value} (X : K.In s.heap) (hlim : s.heap.NoLimit) (hroom : A.depth + 1 < recursionLimit)
    (hq : ∀ h' tk e d, OwnMade s.heap h' e C d v → R (.ok (.ret (.ref e))) { s with heap := h', toks := tk }) :
    codeAny (model prog w) A (.call (.ref C) ⟨[v], []⟩) R s := by
  obtain ⟨nm, q, N, bs, bm, sn, sub, ab, col, dd, k0, k1, k2, k3, k5, hC, hbm⟩ := T.cls
  obtain ⟨hp, g, dr, tk, os⟩ := s
  have k : ∀ b o, hp.get? b = some o → ((hp.push (kdv_tup [v])).push (excO C hp.objs.size)).get? b = some o := fun b o e => Heap.get?_push_of_some _ (Heap.get?_push_of_some _ e)
  have hget : ((hp.push (kdv_tup [v])).push (excO C hp.objs.size)).get? (hp.objs.size + 1) = some (excO C hp.objs.size) := by heap_get
  have hnx : K.lookup (hp.objs.size + 1) = none := by
    cases e : K.lookup (hp.objs.size + 1) with
    | none => rfl
    | some o =>
      have z : hp.get? (hp.objs.size + 1) = some o := X _ _ e
      exact absurd (Nat.lt_of_succ_lt (Heap.lt_size z)) (Nat.lt_irrefl _)
  refine call_own F.excBase_ValueError (fun X => refsVE_contains X bm hbm) (X _ _ hC) (looks_findIn X T.iC) (fun self => bind_fn X self T.tC) (one_size v) ?_
  refine init (s := ⟨(hp.push (kdv_tup [v])).push (excO C hp.objs.size), g, dr, tk, os⟩) T (X.keeps k) (hlim.keeps k) hget hnx ?_ fun h' tk' dx ⟨k', hx, dn, dne, hns⟩ => ?_
  · show A.depth + 1 < recursionLimit
    exact hroom
  · have old : ∀ b o, hp.get? b = some o → h'.get? b = some o := fun b o e => k' b o (Nat.ne_of_lt (Nat.lt_succ_of_lt (Heap.lt_size e))) (k b o e)
    have z : hp.objs.size + 1 + 1 ≤ dx := by
      first
        | (simpa only [Heap.size_push] using dn)
        | exact dn
        | (have q := dn; rw [Heap.size_push, Heap.size_push] at q; exact q)
    exact ⟨rfl, hq h' tk' (hp.objs.size + 1) dx ⟨old, Nat.le_succ _, ⟨_, _, hx, rfl, rfl, rfl, rfl⟩, Nat.le_trans (Nat.le_trans (Nat.le_succ _) (Nat.le_succ _)) z, dne, hns⟩⟩
end
end Cfvalue
namespace Cp
open PySem PySem.Spec PyProof.Rows L2
end Cp
namespace K38
open PySem PySem.Spec PyProof.Rows L2 Cp
def top (i : Nat) : Stmt := PySem.Challenge.pw_callpolicy_k38_joint_endings_by_hand.main.body.getD i (.Pass ⟨0, 0, 0, 0⟩)
abbrev st_inner : Stmt := top 15
abbrev st_with_inner : Stmt := top 16
abbrev st_without_numbers : Stmt := top 17
abbrev st_same_form : Stmt := top 18
abbrev st_later : Stmt := top 22
abbrev st_is_ok : Stmt := top 23
abbrev st_is_failure : Stmt := top 24
abbrev st_timed_out : Stmt := top 25
abbrev st_raced : Stmt := top 26
abbrev st_hedged : Stmt := top 27
abbrev st_both_ended : Stmt := top 28
abbrev st_combined : Stmt := top 29
abbrev st_ending_key : Stmt := top 32
abbrev st_pair_key : Stmt := top 33
abbrev st_check_count : Stmt := top 35
abbrev st_responses_of : Stmt := top 36
abbrev st_after_attempt : Stmt := top 37
abbrev st_joint_attempts : Stmt := top 38
abbrev st_joint_origins : Stmt := top 39
abbrev st_joint_of : Stmt := top 40
abbrev st_joint_of_policies : Stmt := top 41
abbrev st_joint_endings : Stmt := top 42
abbrev st__law_urn : Stmt := top 44
abbrev st__law_next : Stmt := top 45
abbrev st__law_of : Stmt := top 46
abbrev st__law_cases : Stmt := top 47
abbrev st_law : Stmt := top 48
abbrev st_Joint___init__ : Stmt := match top 34 with
  | .ClassDef _ _ _ b _ _ _ _ _ _ _ => b.getD 0 (.Pass ⟨0, 0, 0, 0⟩)
  | _ => .Pass ⟨0, 0, 0, 0⟩
section
variable {P : Program} {w : World} {K : PySem.W.Frag} {mg : Str → Option Value} {base : Heap}
noncomputable def sb_inner : Sv := (sSeq (sIf (mCmp (gIn false) (mBin fIx (mN 0) (mK (.int 0))) (mTup (aCons (mV (mK (.str "call"))) (aCons (mV (mK (.str "wait"))) aNil)))) (sRet (mTup aNil)) sNil) (sRet (eIf (mCmp (gIn false) (mBin fIx (mN 0) (mK (.int 0))) (mTup (aCons (mV (mK (.str "then"))) (aCons (mV (mK (.str "both"))) aNil)))) (mSl (mN 0) (oSome (mK (.int 1))) oNone) (mSl (mN 0) (oSome (mK (.int 2))) oNone))))
noncomputable def sem_inner : Fs := bodyF 1 1 sb_inner
theorem kn_inner (D : Df K mg "inner" st_inner) (c_BOTH : ∃ t, mg "BOTH" = some (.str "both" t)) (c_CALL : ∃ t, mg "CALL" = some (.str "call" t)) (c_THEN : ∃ t, mg "THEN" = some (.str "then" t)) (c_WAIT : ∃ t, mg "WAIT" = some (.str "wait" t)) : Kn P w K mg base "inner" 1 sem_inner :=
  kn_def (k := 0) (N := ["policy"]) (ps := ["policy"]) (sb := sb_inner) D ⟨rfl, rfl, rfl, by decide +kernel, rfl, by decide +kernel, by decide +kernel⟩ (fun _ _ _ _ _ _ us hl => match us, hl with | [_], _ => rfl) (fun cdv f A outer s H E B =>
    (x_cons (x_if (t_in (s_ix (s_name (pv 0)) s_int (fun _ _ => rfl)) (s_tup (a_cons (s_gs (by rfl) c_CALL) (a_cons (s_gs (by rfl) c_WAIT) a_nil))) rfl) (x_one (x_ret (s_tup a_nil))) x_nil) (x_one (x_ret (s_ifE (t_in (s_ix (s_name (pv 0)) s_int (fun _ _ => rfl)) (s_tup (a_cons (s_gs (by rfl) c_THEN) (a_cons (s_gs (by rfl) c_BOTH) a_nil))) rfl) (s_sl (s_name (pv 0)) (o_some s_int) o_none) (s_sl (s_name (pv 0)) (o_some s_int) o_none))))))
noncomputable def sb_with_inner : Sv := (sRet (mBin fAdd (mSl (mN 0) oNone (oSome (mBin (fI (fun _ _ => true) fun i j => i - j) (mCal (gLen) (aCons (mV (mN 0)) aNil)) (mCal (gLen) (aCons (mV (mN 1)) aNil))))) (mCal (g1 fTuple) (aCons (mV (mN 1)) aNil))))
noncomputable def sem_with_inner : Fs := bodyF 2 2 sb_with_inner
theorem kn_with_inner (D : Df K mg "with_inner" st_with_inner) (m_len : mg "len" = none) (m_tuple : mg "tuple" = none) : Kn P w K mg base "with_inner" 1 sem_with_inner :=
  kn_def (k := 0) (N := ["policy", "parts"]) (ps := ["policy", "parts"]) (sb := sb_with_inner) D ⟨rfl, rfl, rfl, by decide +kernel, rfl, by decide +kernel, by decide +kernel⟩ (fun _ _ _ _ _ _ us hl => match us, hl with | [_, _], _ => rfl) (fun cdv f A outer s H E B =>
    (x_one (x_ret (s_add (s_sl (s_name (pv 0)) o_none (o_some (s_sub (k_len B (by rfl) m_len (a_cons (s_name (pv 0)) a_nil)) (k_len B (by rfl) m_len (a_cons (s_name (pv 1)) a_nil))))) (k_tuple (by rfl) m_tuple (a_cons (s_name (pv 1)) a_nil))))))
noncomputable def sb_later : Sv := (sRet (eIf (mCmp gIsN (mN 0) (mK .none)) (mK .none) (mTup (aCons (mV (mBin fAdd (mBin fIx (mN 0) (mK (.int 0))) (mN 1))) (aCons (mV (mBin fIx (mN 0) (mK (.int 1)))) aNil)))))
noncomputable def sem_later : Fs := bodyF 2 2 sb_later
theorem kn_later (D : Df K mg "later" st_later) : Kn P w K mg base "later" 1 sem_later :=
  kn_def (k := 0) (N := ["ending", "moment"]) (ps := ["ending", "moment"]) (sb := sb_later) D ⟨rfl, rfl, rfl, by decide +kernel, rfl, by decide +kernel, by decide +kernel⟩ (fun _ _ _ _ _ _ us hl => match us, hl with | [_, _], _ => rfl) (fun cdv f A outer s H E B =>
    (x_one (x_ret (s_ifE (t_isN (s_name (pv 0)) s_none) s_none (s_tup (a_cons (s_add (s_ix (s_name (pv 0)) s_int (fun _ _ => rfl)) (s_name (pv 1))) (a_cons (s_ix (s_name (pv 0)) s_int (fun _ _ => rfl)) a_nil)))))))
noncomputable def sb_is_ok : Sv := (sRet (eAnd (bV (mCmp gNotN (mN 0) (mK .none))) (bV (mCmp gEq (mBin fIx (mN 0) (mK (.int 1))) (mK (.str "ok"))))))
noncomputable def sem_is_ok : Fs := bodyF 1 1 sb_is_ok
theorem kn_is_ok (D : Df K mg "is_ok" st_is_ok) (c_OK : ∃ t, mg "OK" = some (.str "ok" t)) : Kn P w K mg base "is_ok" 1 sem_is_ok :=
  kn_def (k := 0) (N := ["ending"]) (ps := ["ending"]) (sb := sb_is_ok) D ⟨rfl, rfl, rfl, by decide +kernel, rfl, by decide +kernel, by decide +kernel⟩ (fun _ _ _ _ _ _ us hl => match us, hl with | [_], _ => rfl) (fun cdv f A outer s H E B =>
    (x_one (x_ret (s_and (v_notN (s_name (pv 0)) s_none) (s_one (v_eq B (s_ix (s_name (pv 0)) s_int (fun _ _ => rfl)) (s_gs (by rfl) c_OK)))))))
noncomputable def sb_is_failure : Sv := (sRet (eAnd (bV (mCmp gNotN (mN 0) (mK .none))) (bV (mCmp gEq (mBin fIx (mN 0) (mK (.int 1))) (mK (.str "fail"))))))
noncomputable def sem_is_failure : Fs := bodyF 1 1 sb_is_failure
theorem kn_is_failure (D : Df K mg "is_failure" st_is_failure) (c_FAIL : ∃ t, mg "FAIL" = some (.str "fail" t)) : Kn P w K mg base "is_failure" 1 sem_is_failure :=
  kn_def (k := 0) (N := ["ending"]) (ps := ["ending"]) (sb := sb_is_failure) D ⟨rfl, rfl, rfl, by decide +kernel, rfl, by decide +kernel, by decide +kernel⟩ (fun _ _ _ _ _ _ us hl => match us, hl with | [_], _ => rfl) (fun cdv f A outer s H E B =>
    (x_one (x_ret (s_and (v_notN (s_name (pv 0)) s_none) (s_one (v_eq B (s_ix (s_name (pv 0)) s_int (fun _ _ => rfl)) (s_gs (by rfl) c_FAIL)))))))
noncomputable def sb_timed_out : Sv := (sSeq (sIf (bOr (mCmp gIsN (mN 0) (mK .none)) (bAnd (mCmp gNotN (mN 1) (mK .none)) (mCmp (gI fun i j => decide (i ≤ j)) (mBin fIx (mN 1) (mK (.int 0))) (mN 0)))) (sRet (mN 1)) sNil) (sRet (mTup (aCons (mV (mN 0)) (aCons (mV (mK (.str "fail"))) aNil)))))
noncomputable def sem_timed_out : Fs := bodyF 2 2 sb_timed_out
theorem kn_timed_out (D : Df K mg "timed_out" st_timed_out) (c_FAIL : ∃ t, mg "FAIL" = some (.str "fail" t)) : Kn P w K mg base "timed_out" 1 sem_timed_out :=
  kn_def (k := 0) (N := ["number", "ending"]) (ps := ["number", "ending"]) (sb := sb_timed_out) D ⟨rfl, rfl, rfl, by decide +kernel, rfl, by decide +kernel, by decide +kernel⟩ (fun _ _ _ _ _ _ us hl => match us, hl with | [_, _], _ => rfl) (fun cdv f A outer s H E B =>
    (x_cons (x_if (PW.pt (w_or (t_isN (s_name (pv 0)) s_none) (w_or1 (PW.pt (w_and (t_notN (s_name (pv 1)) s_none) (w_and1 (t_le (s_ix (s_name (pv 1)) s_int (fun _ _ => rfl)) (s_name (pv 0))))))))) (x_one (x_ret (s_name (pv 1)))) x_nil) (x_one (x_ret (s_tup (a_cons (s_name (pv 0)) (a_cons (s_gs (by rfl) c_FAIL) a_nil)))))))
noncomputable def sb_ending_key : Sv := (sRet (eIf (mCmp gIsN (mN 0) (mK .none)) (mTup (aCons (mV (mK (.int 1))) (aCons (mV (mK (.int 0))) (aCons (mV (mK (.int 0))) aNil)))) (mTup (aCons (mV (mK (.int 0))) (aCons (mV (mBin fIx (mN 0) (mK (.int 0)))) (aCons (mV (mCal (g1 fInt) (aCons (mV (bV (mCmp gEq (mBin fIx (mN 0) (mK (.int 1))) (mK (.str "ok"))))) aNil))) aNil))))))
noncomputable def sem_ending_key : Fs := bodyF 1 1 sb_ending_key
theorem kn_ending_key (D : Df K mg "ending_key" st_ending_key) (m_int : mg "int" = none) (c_OK : ∃ t, mg "OK" = some (.str "ok" t)) : Kn P w K mg base "ending_key" 1 sem_ending_key :=
  kn_def (k := 0) (N := ["ending"]) (ps := ["ending"]) (sb := sb_ending_key) D ⟨rfl, rfl, rfl, by decide +kernel, rfl, by decide +kernel, by decide +kernel⟩ (fun _ _ _ _ _ _ us hl => match us, hl with | [_], _ => rfl) (fun cdv f A outer s H E B =>
    (x_one (x_ret (s_ifE (t_isN (s_name (pv 0)) s_none) (s_tup (a_cons s_int (a_cons s_int (a_cons s_int a_nil)))) (s_tup (a_cons s_int (a_cons (s_ix (s_name (pv 0)) s_int (fun _ _ => rfl)) (a_cons (k_int (by rfl) m_int (a_cons (v_eq B (s_ix (s_name (pv 0)) s_int (fun _ _ => rfl)) (s_gs (by rfl) c_OK)) a_nil)) a_nil))))))))
noncomputable def sb_Joint___init__ : Sv := (sSeq (sAsg (gFld "Joint" "part" (mN 0)) (mV (mN 1))) (sSeq (sAsg (gFld "Joint" "origins" (mN 0)) (mV (mN 2))) (sAsg (gFld "Joint" "below" (mN 0)) (mV (mN 3)))))
noncomputable def sem_Joint___init__ : Fs := bodyF 4 4 sb_Joint___init__
theorem kn_Joint___init__ (D : DfI K mg "Joint" "Joint.__init__" st_Joint___init__) (cls_Joint : Cls K (He.ga K "Joint")) (noat_Joint_below : PySem.W.findIn K (.ref (He.ga K "Joint")) "below" = some none) (noat_Joint_origins : PySem.W.findIn K (.ref (He.ga K "Joint")) "origins" = some none) (noat_Joint_part : PySem.W.findIn K (.ref (He.ga K "Joint")) "part" = some none) : KnC P w K mg base "Joint" 1 sem_Joint___init__ :=
  kn_defI (k := 0) (N := ["self", "part", "origins", "below"]) (ps := ["self", "part", "origins", "below"]) (sb := sb_Joint___init__) D ⟨rfl, rfl, rfl, by decide +kernel, rfl, by decide +kernel, by decide +kernel⟩ (fun _ _ _ _ _ _ us hl => match us, hl with | [_, _, _, _], _ => rfl) (fun cdv f A outer s H E B =>
    (x_cons (x_asg (pv_frz (s_name (pv 1))) (t_fld B.hK cls_Joint noat_Joint_part (s_name (pv 0)))) (x_cons (x_asg (pv_frz (s_name (pv 2))) (t_fld B.hK cls_Joint noat_Joint_origins (s_name (pv 0)))) (x_one (x_asg (pv_frz (s_name (pv 3))) (t_fld B.hK cls_Joint noat_Joint_below (s_name (pv 0))))))))
noncomputable def sb_check_count : Sv := (sIf (mCmp (gI fun i j => decide (j < i)) (mN 0) (mK (.int 200))) (sRaise "TooManyEndings") sNil)
noncomputable def sem_check_count : Fs := bodyF 1 1 sb_check_count
theorem kn_check_count (D : Df K mg "check_count" st_check_count) (c_MOST_ENDINGS : ∃ t, mg "MOST_ENDINGS" = some (.int 200 t)) (exc_TooManyEndings : PySem.W.excIn K (He.ga K "TooManyEndings") He.veBase "ValueError.__new__" = true ∧ PySem.W.keepIn K (.ref (He.ga K "TooManyEndings")) = true ∧ PySem.W.subIn K (.ref (He.ga K "TooManyEndings")) (.type "BaseException") = some true ∧ PySem.W.typeIn K (.ref (He.ga K "TooManyEndings")) = some (.type "type")) (g_TooManyEndings : mg "TooManyEndings" = some (.ref (He.ga K "TooManyEndings"))) : Kn P w K mg base "check_count" 1 sem_check_count :=
  kn_def (k := 0) (N := ["count"]) (ps := ["count"]) (sb := sb_check_count) D ⟨rfl, rfl, rfl, by decide +kernel, rfl, by decide +kernel, by decide +kernel⟩ (fun _ _ _ _ _ _ us hl => match us, hl with | [_], _ => rfl) (fun cdv f A outer s H E B =>
    (x_one (x_if (t_gt (s_name (pv 0)) (s_gi (by rfl) c_MOST_ENDINGS)) (x_one (x_raise0 B g_TooManyEndings exc_TooManyEndings (by rfl))) x_nil)))
noncomputable def sb__law_urn : Sv := (sSeq (sAsg (gNm 2) (mV (mBin fAdd (mBin fMulA (mK (.int 13)) (mN 1)) (mK (.int 5))))) (sSeq (sIf (mCmp (gI fun i j => decide (i < j)) (mN 1) (mCal (gLen) (aCons (mV (mN 0)) aNil))) (sAsg (gNm 2) (mV (mSix (mN 0) (mN 1)))) sNil) (sSeq (sAsg (gNm 3) (mV (mBin fMulA (mBin (fI pPos fun i j => i % j) (mCal (g1 fAbs) (aCons (mV (mN 2)) aNil)) (mBin (fI pPow fun i j => i ^ j.toNat) (mBin (fI pPow fun i j => i ^ j.toNat) (mK (.int 10)) (mK (.int 60))) (mK (.int 5)))) (mCal (g1 fInt) (aCons (mV (bV (mCmp (gI fun i j => decide (j ≤ i)) (mCal (g1 fAbs) (aCons (mV (mN 2)) aNil)) (mBin (fI pPow fun i j => i ^ j.toNat) (mK (.int 10)) (mK (.int 18)))))) aNil))))) (sRet (mLst (aCons (mV (mN 3)) (aCons (mV (mBin (fI pPos fun i j => i % j) (mBin fAdd (mBin fAdd (mBin fMulA (mBin (fI pPos fun i j => i % j) (mN 2) (mK (.int 2305843009213693951))) (mK (.int 69859))) (mBin fMulA (mBin fMulA (mK (.int 5003)) (mN 1)) (mN 1))) (mK (.int 83))) (mK (.int 2305843009213693907)))) (aCons (mV (mK (.int 0))) aNil))))))))
noncomputable def sem__law_urn : Fs := bodyF 4 2 sb__law_urn
theorem kn__law_urn (D : Df K mg "_law_urn" st__law_urn) (m_abs : mg "abs" = none) (m_int : mg "int" = none) (m_len : mg "len" = none) : Kn P w K mg base "_law_urn" 1 sem__law_urn :=
  kn_def (k := 0) (N := ["_law_script", "_law_k", "_law_cell", "_law_own"]) (ps := ["_law_script", "_law_k"]) (sb := sb__law_urn) D ⟨rfl, rfl, rfl, by decide +kernel, rfl, by decide +kernel, by decide +kernel⟩ (fun _ _ _ _ _ _ us hl => match us, hl with | [_, _], _ => rfl) (fun cdv f A outer s H E B =>
    (x_cons (x_asg (pv_frz (s_add (s_mulA s_int (s_name (pv 1))) s_int)) (t_name (pg_name (i := 2) B.nd rfl (by first | exact .inl rfl | exact .inr rfl)))) (x_cons (x_if (t_lt (s_name (pv 1)) (k_len B (by rfl) m_len (a_cons (s_name (pv 0)) a_nil))) (x_one (x_asg (pv_frz (s_six B.hK (s_name (pv 0)) (s_name (pv 1)) (fun _ _ => rfl))) (t_name (pg_name (i := 2) B.nd rfl (by first | exact .inl rfl | exact .inr rfl))))) x_nil) (x_cons (x_asg (pv_frz (s_mulA (s_mod (k_abs (by rfl) m_abs (a_cons (s_name (pv 2)) a_nil)) (s_pow (s_pow s_int s_int) s_int)) (k_int (by rfl) m_int (a_cons (v_ge (k_abs (by rfl) m_abs (a_cons (s_name (pv 2)) a_nil)) (s_pow s_int s_int)) a_nil)))) (t_name (pg_name (i := 3) B.nd rfl (by first | exact .inl rfl | exact .inr rfl)))) (x_one (x_ret (s_lst (a_cons (s_name (pv 3)) (a_cons (s_mod (s_add (s_add (s_mulA (s_mod (s_name (pv 2)) s_int) s_int) (s_mulA (s_mulA s_int (s_name (pv 1))) (s_name (pv 1)))) s_int) s_int) (a_cons s_int a_nil))))))))))
noncomputable def sb__law_next : Sv := (sSeq (sIf (mCmp (gI fun i j => decide (j < i)) (mBin fIx (mN 0) (mK (.int 0))) (mK (.int 0))) (sSeq (sAsg (gNm 2) (mV (mBin (fI pPos fun i j => i % j) (mBin fIx (mN 0) (mK (.int 0))) (mN 1)))) (sSeq (sAsg (gPl (mN 0) (mK (.int 0))) (mV (mBin (fI pDiv fun i j => i / j) (mBin fIx (mN 0) (mK (.int 0))) (mN 1)))) (sRet (mN 2)))) sNil) (sSeq (sAsg (gPl (mN 0) (mK (.int 2))) (mV (mBin fAdd (mBin fIx (mN 0) (mK (.int 2))) (mK (.int 1))))) (sSeq (sAsg (gNm 3) (mV (mBin (fI pPos fun i j => i % j) (mBin fMulA (mBin fAdd (mBin fAdd (mBin fIx (mN 0) (mK (.int 1))) (mBin fMulA (mBin fMulA (mK (.int 30011)) (mBin fIx (mN 0) (mK (.int 2)))) (mBin fIx (mN 0) (mK (.int 2))))) (mK (.int 19))) (mK (.int 69877))) (mK (.int 2305843009213693921))))) (sSeq (sAsg (gNm 3) (mV (mBin (fI pPos fun i j => i % j) (mBin fMulA (mN 3) (mBin fAdd (mBin fAdd (mBin (fI pPos fun i j => i % j) (mN 3) (mK (.int 1000039))) (mBin fMulA (mK (.int 60013)) (mBin fIx (mN 0) (mK (.int 2))))) (mK (.int 5)))) (mK (.int 2305843009213693951))))) (sRet (mBin (fI pPos fun i j => i % j) (mBin fAdd (mBin (fI pDiv fun i j => i / j) (mN 3) (mK (.int 103))) (mBin (fI pDiv fun i j => i / j) (mN 3) (mK (.int 999979)))) (mN 1)))))))
noncomputable def sem__law_next : Fs := bodyF 4 2 sb__law_next
theorem kn__law_next (D : Df K mg "_law_next" st__law_next) : Kn P w K mg base "_law_next" 1 sem__law_next :=
  kn_def (k := 0) (N := ["_law_urn_here", "_law_below", "_law_digit", "_law_blend"]) (ps := ["_law_urn_here", "_law_below"]) (sb := sb__law_next) D ⟨rfl, rfl, rfl, by decide +kernel, rfl, by decide +kernel, by decide +kernel⟩ (fun _ _ _ _ _ _ us hl => match us, hl with | [_, _], _ => rfl) (fun cdv f A outer s H E B =>
    (x_cons (x_if (t_gt (s_ix (s_name (pv 0)) s_int (fun _ _ => rfl)) s_int) (x_cons (x_asg (pv_frz (s_mod (s_ix (s_name (pv 0)) s_int (fun _ _ => rfl)) (s_name (pv 1)))) (t_name (pg_name (i := 2) B.nd rfl (by first | exact .inl rfl | exact .inr rfl)))) (x_cons (x_asg (pv_frz (s_fdiv (s_ix (s_name (pv 0)) s_int (fun _ _ => rfl)) (s_name (pv 1)))) (t_pl (s_name (pv 0)) s_int)) (x_one (x_ret (s_name (pv 2)))))) x_nil) (x_cons (x_asg (pv_frz (s_add (s_ix (s_name (pv 0)) s_int (fun _ _ => rfl)) s_int)) (t_pl (s_name (pv 0)) s_int)) (x_cons (x_asg (pv_frz (s_mod (s_mulA (s_add (s_add (s_ix (s_name (pv 0)) s_int (fun _ _ => rfl)) (s_mulA (s_mulA s_int (s_ix (s_name (pv 0)) s_int (fun _ _ => rfl))) (s_ix (s_name (pv 0)) s_int (fun _ _ => rfl)))) s_int) s_int) s_int)) (t_name (pg_name (i := 3) B.nd rfl (by first | exact .inl rfl | exact .inr rfl)))) (x_cons (x_asg (pv_frz (s_mod (s_mulA (s_name (pv 3)) (s_add (s_add (s_mod (s_name (pv 3)) s_int) (s_mulA s_int (s_ix (s_name (pv 0)) s_int (fun _ _ => rfl)))) s_int)) s_int)) (t_name (pg_name (i := 3) B.nd rfl (by first | exact .inl rfl | exact .inr rfl)))) (x_one (x_ret (s_mod (s_add (s_fdiv (s_name (pv 3)) s_int) (s_fdiv (s_name (pv 3)) s_int)) (s_name (pv 1))))))))))
noncomputable def sb__law_cases : Sv := (sSeq (sPar [2, 3] (aCons (mV (mTup (aCons (mV (mK (.str "call"))) (aCons (mV (mN 0)) (aCons (mV (mTup (aCons (mV (mK (.int 2))) (aCons (mV (mK (.int 2))) aNil)))) (aCons (mV (mK .none)) (aCons (mV (mK (.bool false))) aNil))))))) (aCons (mV (mTup (aCons (mV (mK (.str "call"))) (aCons (mV (mN 0)) (aCons (mV (mK .none)) (aCons (mV (mTup (aCons (mV (mK (.int 2))) (aCons (mV (mK (.int 2))) aNil)))) (aCons (mV (mK (.bool false))) aNil))))))) aNil))) (sSeq (sPar [4, 5] (aCons (mV (mTup (aCons (mV (mK (.str "call"))) (aCons (mV (mN 0)) (aCons (mV (mTup (aCons (mV (mK (.int 1))) (aCons (mV (mK (.int 1))) aNil)))) (aCons (mV (mTup (aCons (mV (mK (.int 3))) (aCons (mV (mK (.int 3))) aNil)))) (aCons (mV (mK (.bool false))) aNil))))))) (aCons (mV (mTup (aCons (mV (mK (.str "call"))) (aCons (mV (mN 1)) (aCons (mV (mTup (aCons (mV (mK (.int 1))) (aCons (mV (mK (.int 1))) aNil)))) (aCons (mV (mK .none)) (aCons (mV (mK (.bool true))) aNil))))))) aNil))) (sSeq (sPar [6, 7] (aCons (mV (mTup (aCons (mV (mK (.str "call"))) (aCons (mV (mN 1)) (aCons (mV (mTup (aCons (mV (mK (.int 0))) (aCons (mV (mK (.int 0))) aNil)))) (aCons (mV (mK .none)) (aCons (mV (mK (.bool false))) aNil))))))) (aCons (mV (mTup (aCons (mV (mK (.str "call"))) (aCons (mV (mN 0)) (aCons (mV (mK .none)) (aCons (mV (mK .none)) (aCons (mV (mK (.bool true))) aNil))))))) aNil))) (sSeq (sAsg (gNm 8) (mV (mTup (aCons (mV (mK (.str "call"))) (aCons (mV (mN 0)) (aCons (mV (mTup (aCons (mV (mBin (fI pPow fun i j => i ^ j.toNat) (mK (.int 10)) (mK (.int 9)))) (aCons (mV (mBin (fI pPow fun i j => i ^ j.toNat) (mK (.int 10)) (mK (.int 9)))) aNil)))) (aCons (mV (mK .none)) (aCons (mV (mK (.bool true))) aNil)))))))) (sSeq (sAsg (gNm 9) (mVc (mLst (aCons (mV (mTup (aCons (mV (mTup (aCons (mV (mK (.str "wait"))) (aCons (mV (mK (.int 3))) aNil)))) (aCons (mV (mTup (aCons (mV (mK (.str "wait"))) (aCons (mV (mK (.int 0))) aNil)))) (aCons (mV (mTup (aCons (mV (mTup (aCons (mV (mTup (aCons (mV (mK (.int 3))) (aCons (mV (mK (.str "ok"))) aNil)))) (aCons (mV (mTup (aCons (mV (mK (.int 0))) (aCons (mV (mK (.str "ok"))) aNil)))) aNil)))) aNil))) aNil))))) aNil)))) (sSeq (sExp (mApp (mN 9) (mTup (aCons (mV (mTup (aCons (mV (mK (.str "timeout"))) (aCons (mV (mK (.int 2))) (aCons (mV (mN 2)) aNil))))) (aCons (mV (mTup (aCons (mV (mK (.str "timeout"))) (aCons (mV (mK (.int 1))) (aCons (mV (mN 2)) aNil))))) (aCons (mV (mTup (aCons (mV (mTup (aCons (mV (mTup (aCons (mV (mK (.int 2))) (aCons (mV (mK (.str "ok"))) aNil)))) (aCons (mV (mTup (aCons (mV (mK (.int 1))) (aCons (mV (mK (.str "fail"))) aNil)))) aNil)))) aNil))) aNil)))))) (sSeq (sExp (mApp (mN 9) (mTup (aCons (mV (mTup (aCons (mV (mK (.str "timeout"))) (aCons (mV (mK .none)) (aCons (mV (mN 3)) aNil))))) (aCons (mV (mTup (aCons (mV (mK (.str "timeout"))) (aCons (mV (mK (.int 1))) (aCons (mV (mN 3)) aNil))))) (aCons (mV (mTup (aCons (mV (mTup (aCons (mV (mTup (aCons (mV (mK (.int 2))) (aCons (mV (mK (.str "fail"))) aNil)))) (aCons (mV (mTup (aCons (mV (mK (.int 1))) (aCons (mV (mK (.str "fail"))) aNil)))) aNil)))) aNil))) aNil)))))) (sSeq (sExp (mApp (mN 9) (mTup (aCons (mV (mTup (aCons (mV (mK (.str "timeout"))) (aCons (mV (mK (.int 0))) (aCons (mV (mN 7)) aNil))))) (aCons (mV (mTup (aCons (mV (mK (.str "timeout"))) (aCons (mV (mK .none)) (aCons (mV (mN 7)) aNil))))) (aCons (mV (mTup (aCons (mV (mTup (aCons (mV (mTup (aCons (mV (mK (.int 0))) (aCons (mV (mK (.str "fail"))) aNil)))) (aCons (mV (mK .none)) aNil)))) aNil))) aNil)))))) (sSeq (sExp (mApp (mN 9) (mTup (aCons (mV (mTup (aCons (mV (mK (.str "race"))) (aCons (mV (mK (.int 2))) (aCons (mV (mN 2)) (aCons (mV (mN 6)) aNil)))))) (aCons (mV (mTup (aCons (mV (mK (.str "race"))) (aCons (mV (mK (.int 1))) (aCons (mV (mN 2)) (aCons (mV (mN 6)) aNil)))))) (aCons (mV (mTup (aCons (mV (mTup (aCons (mV (mTup (aCons (mV (mK (.int 2))) (aCons (mV (mK (.str "ok"))) aNil)))) (aCons (mV (mTup (aCons (mV (mK (.int 1))) (aCons (mV (mK (.str "ok"))) aNil)))) aNil)))) aNil))) aNil)))))) (sSeq (sAsg (gNm 10) (mV (mLst (aCons (mV (mTup (aCons (mV (mTup (aCons (mV (mK (.int 2))) (aCons (mV (mK (.str "fail"))) aNil)))) (aCons (mV (mTup (aCons (mV (mK (.int 1))) (aCons (mV (mK (.str "ok"))) aNil)))) aNil)))) (aCons (mV (mTup (aCons (mV (mTup (aCons (mV (mK (.int 2))) (aCons (mV (mK (.str "fail"))) aNil)))) (aCons (mV (mTup (aCons (mV (mK (.int 2))) (aCons (mV (mK (.str "fail"))) aNil)))) aNil)))) aNil))))) (sSeq (sExp (mApp (mN 9) (mTup (aCons (mV (mTup (aCons (mV (mK (.str "race"))) (aCons (mV (mK (.int 1))) (aCons (mV (mN 3)) (aCons (mV (mN 5)) aNil)))))) (aCons (mV (mTup (aCons (mV (mK (.str "race"))) (aCons (mV (mK (.int 0))) (aCons (mV (mN 3)) (aCons (mV (mN 5)) aNil)))))) (aCons (mV (mCal (g1 fTuple) (aCons (mV (mN 10)) aNil))) aNil)))))) (sSeq (sExp (mApp (mN 9) (mTup (aCons (mV (mTup (aCons (mV (mK (.str "hedge"))) (aCons (mV (mK (.int 1))) (aCons (mV (mN 3)) (aCons (mV (mN 5)) aNil)))))) (aCons (mV (mTup (aCons (mV (mK (.str "hedge"))) (aCons (mV (mK (.int 5))) (aCons (mV (mN 3)) (aCons (mV (mN 5)) aNil)))))) (aCons (mV (mTup (aCons (mV (mTup (aCons (mV (mTup (aCons (mV (mK (.int 2))) (aCons (mV (mK (.str "ok"))) aNil)))) (aCons (mV (mTup (aCons (mV (mK (.int 3))) (aCons (mV (mK (.str "ok"))) aNil)))) aNil)))) (aCons (mV (mTup (aCons (mV (mK .none)) (aCons (mV (mK .none)) aNil)))) aNil)))) aNil)))))) (sSeq (sAsg (gNm 10) (mV (mLst (aCons (mV (mTup (aCons (mV (mTup (aCons (mV (mK (.int 2))) (aCons (mV (mK (.str "ok"))) aNil)))) (aCons (mV (mK .none)) aNil)))) (aCons (mV (mTup (aCons (mV (mK .none)) (aCons (mV (mK .none)) aNil)))) aNil))))) (sSeq (sExp (mApp (mN 9) (mTup (aCons (mV (mTup (aCons (mV (mK (.str "hedge"))) (aCons (mV (mK (.int 1))) (aCons (mV (mN 7)) (aCons (mV (mN 5)) aNil)))))) (aCons (mV (mTup (aCons (mV (mK (.str "hedge"))) (aCons (mV (mK .none)) (aCons (mV (mN 7)) (aCons (mV (mN 5)) aNil)))))) (aCons (mV (mCal (g1 fTuple) (aCons (mV (mN 10)) aNil))) aNil)))))) (sSeq (sExp (mApp (mN 9) (mTup (aCons (mV (mTup (aCons (mV (mK (.str "fallback"))) (aCons (mV (mK (.int 4))) (aCons (mV (mN 3)) (aCons (mV (mN 6)) aNil)))))) (aCons (mV (mTup (aCons (mV (mK (.str "fallback"))) (aCons (mV (mK .none)) (aCons (mV (mN 3)) (aCons (mV (mN 6)) aNil)))))) (aCons (mV (mTup (aCons (mV (mTup (aCons (mV (mTup (aCons (mV (mK (.int 6))) (aCons (mV (mK (.str "ok"))) aNil)))) (aCons (mV (mTup (aCons (mV (mK (.int 2))) (aCons (mV (mK (.str "fail"))) aNil)))) aNil)))) aNil))) aNil)))))) (sSeq (sExp (mApp (mN 9) (mTup (aCons (mV (mTup (aCons (mV (mK (.str "fallback"))) (aCons (mV (mK (.int 0))) (aCons (mV (mN 2)) (aCons (mV (mN 6)) aNil)))))) (aCons (mV (mTup (aCons (mV (mK (.str "fallback"))) (aCons (mV (mK (.int 9))) (aCons (mV (mN 2)) (aCons (mV (mN 6)) aNil)))))) (aCons (mV (mTup (aCons (mV (mTup (aCons (mV (mTup (aCons (mV (mK (.int 2))) (aCons (mV (mK (.str "ok"))) aNil)))) (aCons (mV (mTup (aCons (mV (mK (.int 2))) (aCons (mV (mK (.str "ok"))) aNil)))) aNil)))) aNil))) aNil)))))) (sSeq (sExp (mApp (mN 9) (mTup (aCons (mV (mTup (aCons (mV (mK (.str "then"))) (aCons (mV (mN 2)) (aCons (mV (mN 6)) aNil))))) (aCons (mV (mTup (aCons (mV (mK (.str "then"))) (aCons (mV (mN 2)) (aCons (mV (mN 6)) aNil))))) (aCons (mV (mTup (aCons (mV (mTup (aCons (mV (mTup (aCons (mV (mK (.int 2))) (aCons (mV (mK (.str "ok"))) aNil)))) (aCons (mV (mTup (aCons (mV (mK (.int 2))) (aCons (mV (mK (.str "ok"))) aNil)))) aNil)))) aNil))) aNil)))))) (sSeq (sExp (mApp (mN 9) (mTup (aCons (mV (mTup (aCons (mV (mK (.str "both"))) (aCons (mV (mN 3)) (aCons (mV (mN 5)) aNil))))) (aCons (mV (mTup (aCons (mV (mK (.str "both"))) (aCons (mV (mN 3)) (aCons (mV (mN 5)) aNil))))) (aCons (mV (mTup (aCons (mV (mTup (aCons (mV (mTup (aCons (mV (mK (.int 2))) (aCons (mV (mK (.str "fail"))) aNil)))) (aCons (mV (mTup (aCons (mV (mK (.int 2))) (aCons (mV (mK (.str "fail"))) aNil)))) aNil)))) aNil))) aNil)))))) (sSeq (sAsg (gNm 10) (mV (mLst (aCons (mV (mTup (aCons (mV (mTup (aCons (mV (mK (.int 1))) (aCons (mV (mK (.str "ok"))) aNil)))) (aCons (mV (mTup (aCons (mV (mK (.int 1))) (aCons (mV (mK (.str "ok"))) aNil)))) aNil)))) (aCons (mV (mTup (aCons (mV (mTup (aCons (mV (mK (.int 3))) (aCons (mV (mK (.str "fail"))) aNil)))) (aCons (mV (mTup (aCons (mV (mK (.int 5))) (aCons (mV (mK (.str "ok"))) aNil)))) aNil)))) (aCons (mV (mTup (aCons (mV (mTup (aCons (mV (mK (.int 3))) (aCons (mV (mK (.str "fail"))) aNil)))) (aCons (mV (mTup (aCons (mV (mK (.int 7))) (aCons (mV (mK (.str "fail"))) aNil)))) aNil)))) aNil)))))) (sSeq (sExp (mApp (mN 9) (mTup (aCons (mV (mTup (aCons (mV (mK (.str "retry"))) (aCons (mV (mTup aNil)) (aCons (mV (mN 4)) aNil))))) (aCons (mV (mTup (aCons (mV (mK (.str "retry"))) (aCons (mV (mTup (aCons (mV (mK (.int 1))) aNil))) (aCons (mV (mN 4)) aNil))))) (aCons (mV (mCal (g1 fTuple) (aCons (mV (mN 10)) aNil))) aNil)))))) (sSeq (sAsg (gNm 10) (mV (mLst (aCons (mV (mTup (aCons (mV (mTup (aCons (mV (mK (.int 1))) (aCons (mV (mK (.str "ok"))) aNil)))) (aCons (mV (mTup (aCons (mV (mK (.int 1))) (aCons (mV (mK (.str "ok"))) aNil)))) aNil)))) (aCons (mV (mTup (aCons (mV (mTup (aCons (mV (mK (.int 4))) (aCons (mV (mK (.str "ok"))) aNil)))) (aCons (mV (mTup (aCons (mV (mK (.int 5))) (aCons (mV (mK (.str "ok"))) aNil)))) aNil)))) (aCons (mV (mTup (aCons (mV (mTup (aCons (mV (mK (.int 6))) (aCons (mV (mK (.str "fail"))) aNil)))) (aCons (mV (mTup (aCons (mV (mK (.int 7))) (aCons (mV (mK (.str "fail"))) aNil)))) aNil)))) aNil)))))) (sSeq (sExp (mApp (mN 9) (mTup (aCons (mV (mTup (aCons (mV (mK (.str "retry"))) (aCons (mV (mTup (aCons (mV (mK (.int 0))) aNil))) (aCons (mV (mN 4)) aNil))))) (aCons (mV (mTup (aCons (mV (mK (.str "retry"))) (aCons (mV (mTup (aCons (mV (mK (.int 1))) aNil))) (aCons (mV (mN 4)) aNil))))) (aCons (mV (mCal (g1 fTuple) (aCons (mV (mN 10)) aNil))) aNil)))))) (sSeq (sAsg (gNm 10) (mV (mLst (aCons (mV (mTup (aCons (mV (mTup (aCons (mV (mBin (fI (fun _ _ => true) fun i j => i - j) (mBin (fI pPow fun i j => i ^ j.toNat) (mK (.int 10)) (mK (.int 9))) (mK (.int 1)))) (aCons (mV (mK (.str "fail"))) aNil)))) (aCons (mV (mTup (aCons (mV (mBin (fI pPow fun i j => i ^ j.toNat) (mK (.int 10)) (mK (.int 9)))) (aCons (mV (mK (.str "ok"))) aNil)))) aNil)))) (aCons (mV (mTup (aCons (mV (mTup (aCons (mV (mBin (fI (fun _ _ => true) fun i j => i - j) (mBin (fI pPow fun i j => i ^ j.toNat) (mK (.int 10)) (mK (.int 9))) (mK (.int 1)))) (aCons (mV (mK (.str "fail"))) aNil)))) (aCons (mV (mTup (aCons (mV (mBin (fI pPow fun i j => i ^ j.toNat) (mK (.int 10)) (mK (.int 9)))) (aCons (mV (mK (.str "fail"))) aNil)))) aNil)))) aNil))))) (sSeq (sExp (mApp (mN 9) (mTup (aCons (mV (mTup (aCons (mV (mK (.str "timeout"))) (aCons (mV (mBin (fI (fun _ _ => true) fun i j => i - j) (mBin (fI pPow fun i j => i ^ j.toNat) (mK (.int 10)) (mK (.int 9))) (mK (.int 1)))) (aCons (mV (mN 8)) aNil))))) (aCons (mV (mTup (aCons (mV (mK (.str "timeout"))) (aCons (mV (mBin (fI pPow fun i j => i ^ j.toNat) (mK (.int 10)) (mK (.int 9)))) (aCons (mV (mN 8)) aNil))))) (aCons (mV (mTup (aCons (mV (mBin fIx (mN 10) (mK (.int 1)))) (aCons (mV (mBin fIx (mN 10) (mK (.int 0)))) aNil)))) aNil)))))) (sRet (mN 9))))))))))))))))))))))))))
noncomputable def sem__law_cases : Fs := bodyF 11 2 sb__law_cases
theorem kn__law_cases (D : Df K mg "_law_cases" st__law_cases) (m_tuple : mg "tuple" = none) : Kn P w K mg base "_law_cases" 1 sem__law_cases :=
  kn_def (k := 0) (N := ["_law_a", "_law_b", "_law_good", "_law_bad", "_law_both", "_law_late", "_law_quick", "_law_never", "_law_far", "_law_found", "_law_due"]) (ps := ["_law_a", "_law_b"]) (sb := sb__law_cases) D ⟨rfl, rfl, rfl, by decide +kernel, rfl, by decide +kernel, by decide +kernel⟩ (fun _ _ _ _ _ _ us hl => match us, hl with | [_, _], _ => rfl) (fun cdv f A outer s H E B =>
    (x_cons (x_par (ps_par B.cm B.nd rfl rfl (by decide) rfl rfl (a_cons (s_tup (a_cons s_str (a_cons (s_name (pv 0)) (a_cons (s_tup (a_cons s_int (a_cons s_int a_nil))) (a_cons s_none (a_cons s_bool a_nil)))))) (a_cons (s_tup (a_cons s_str (a_cons (s_name (pv 0)) (a_cons s_none (a_cons (s_tup (a_cons s_int (a_cons s_int a_nil))) (a_cons s_bool a_nil)))))) a_nil)) rfl)) (x_cons (x_par (ps_par B.cm B.nd rfl rfl (by decide) rfl rfl (a_cons (s_tup (a_cons s_str (a_cons (s_name (pv 0)) (a_cons (s_tup (a_cons s_int (a_cons s_int a_nil))) (a_cons (s_tup (a_cons s_int (a_cons s_int a_nil))) (a_cons s_bool a_nil)))))) (a_cons (s_tup (a_cons s_str (a_cons (s_name (pv 1)) (a_cons (s_tup (a_cons s_int (a_cons s_int a_nil))) (a_cons s_none (a_cons s_bool a_nil)))))) a_nil)) rfl)) (x_cons (x_par (ps_par B.cm B.nd rfl rfl (by decide) rfl rfl (a_cons (s_tup (a_cons s_str (a_cons (s_name (pv 1)) (a_cons (s_tup (a_cons s_int (a_cons s_int a_nil))) (a_cons s_none (a_cons s_bool a_nil)))))) (a_cons (s_tup (a_cons s_str (a_cons (s_name (pv 0)) (a_cons s_none (a_cons s_none (a_cons s_bool a_nil)))))) a_nil)) rfl)) (x_cons (x_asg (pv_frz (s_tup (a_cons s_str (a_cons (s_name (pv 0)) (a_cons (s_tup (a_cons (s_pow s_int s_int) (a_cons (s_pow s_int s_int) a_nil))) (a_cons s_none (a_cons s_bool a_nil))))))) (t_name (pg_name (i := 8) B.nd rfl (by first | exact .inl rfl | exact .inr rfl)))) (x_cons (x_asg (pv_cell (s_lst (a_cons (s_tup (a_cons (s_tup (a_cons s_str (a_cons s_int a_nil))) (a_cons (s_tup (a_cons s_str (a_cons s_int a_nil))) (a_cons (s_tup (a_cons (s_tup (a_cons (s_tup (a_cons s_int (a_cons s_str a_nil))) (a_cons (s_tup (a_cons s_int (a_cons s_str a_nil))) a_nil))) a_nil)) a_nil)))) a_nil))) (t_name (pg_name (i := 9) B.nd rfl (by first | exact .inl rfl | exact .inr rfl)))) (x_cons (x_expr (y_app (s_name (pv 9)) (s_tup (a_cons (s_tup (a_cons s_str (a_cons s_int (a_cons (s_name (pv 2)) a_nil)))) (a_cons (s_tup (a_cons s_str (a_cons s_int (a_cons (s_name (pv 2)) a_nil)))) (a_cons (s_tup (a_cons (s_tup (a_cons (s_tup (a_cons s_int (a_cons s_str a_nil))) (a_cons (s_tup (a_cons s_int (a_cons s_str a_nil))) a_nil))) a_nil)) a_nil)))))) (x_cons (x_expr (y_app (s_name (pv 9)) (s_tup (a_cons (s_tup (a_cons s_str (a_cons s_none (a_cons (s_name (pv 3)) a_nil)))) (a_cons (s_tup (a_cons s_str (a_cons s_int (a_cons (s_name (pv 3)) a_nil)))) (a_cons (s_tup (a_cons (s_tup (a_cons (s_tup (a_cons s_int (a_cons s_str a_nil))) (a_cons (s_tup (a_cons s_int (a_cons s_str a_nil))) a_nil))) a_nil)) a_nil)))))) (x_cons (x_expr (y_app (s_name (pv 9)) (s_tup (a_cons (s_tup (a_cons s_str (a_cons s_int (a_cons (s_name (pv 7)) a_nil)))) (a_cons (s_tup (a_cons s_str (a_cons s_none (a_cons (s_name (pv 7)) a_nil)))) (a_cons (s_tup (a_cons (s_tup (a_cons (s_tup (a_cons s_int (a_cons s_str a_nil))) (a_cons s_none a_nil))) a_nil)) a_nil)))))) (x_cons (x_expr (y_app (s_name (pv 9)) (s_tup (a_cons (s_tup (a_cons s_str (a_cons s_int (a_cons (s_name (pv 2)) (a_cons (s_name (pv 6)) a_nil))))) (a_cons (s_tup (a_cons s_str (a_cons s_int (a_cons (s_name (pv 2)) (a_cons (s_name (pv 6)) a_nil))))) (a_cons (s_tup (a_cons (s_tup (a_cons (s_tup (a_cons s_int (a_cons s_str a_nil))) (a_cons (s_tup (a_cons s_int (a_cons s_str a_nil))) a_nil))) a_nil)) a_nil)))))) (x_cons (x_asg (pv_frz (s_lst (a_cons (s_tup (a_cons (s_tup (a_cons s_int (a_cons s_str a_nil))) (a_cons (s_tup (a_cons s_int (a_cons s_str a_nil))) a_nil))) (a_cons (s_tup (a_cons (s_tup (a_cons s_int (a_cons s_str a_nil))) (a_cons (s_tup (a_cons s_int (a_cons s_str a_nil))) a_nil))) a_nil)))) (t_name (pg_name (i := 10) B.nd rfl (by first | exact .inl rfl | exact .inr rfl)))) (x_cons (x_expr (y_app (s_name (pv 9)) (s_tup (a_cons (s_tup (a_cons s_str (a_cons s_int (a_cons (s_name (pv 3)) (a_cons (s_name (pv 5)) a_nil))))) (a_cons (s_tup (a_cons s_str (a_cons s_int (a_cons (s_name (pv 3)) (a_cons (s_name (pv 5)) a_nil))))) (a_cons (k_tuple (by rfl) m_tuple (a_cons (s_name (pv 10)) a_nil)) a_nil)))))) (x_cons (x_expr (y_app (s_name (pv 9)) (s_tup (a_cons (s_tup (a_cons s_str (a_cons s_int (a_cons (s_name (pv 3)) (a_cons (s_name (pv 5)) a_nil))))) (a_cons (s_tup (a_cons s_str (a_cons s_int (a_cons (s_name (pv 3)) (a_cons (s_name (pv 5)) a_nil))))) (a_cons (s_tup (a_cons (s_tup (a_cons (s_tup (a_cons s_int (a_cons s_str a_nil))) (a_cons (s_tup (a_cons s_int (a_cons s_str a_nil))) a_nil))) (a_cons (s_tup (a_cons s_none (a_cons s_none a_nil))) a_nil))) a_nil)))))) (x_cons (x_asg (pv_frz (s_lst (a_cons (s_tup (a_cons (s_tup (a_cons s_int (a_cons s_str a_nil))) (a_cons s_none a_nil))) (a_cons (s_tup (a_cons s_none (a_cons s_none a_nil))) a_nil)))) (t_name (pg_name (i := 10) B.nd rfl (by first | exact .inl rfl | exact .inr rfl)))) (x_cons (x_expr (y_app (s_name (pv 9)) (s_tup (a_cons (s_tup (a_cons s_str (a_cons s_int (a_cons (s_name (pv 7)) (a_cons (s_name (pv 5)) a_nil))))) (a_cons (s_tup (a_cons s_str (a_cons s_none (a_cons (s_name (pv 7)) (a_cons (s_name (pv 5)) a_nil))))) (a_cons (k_tuple (by rfl) m_tuple (a_cons (s_name (pv 10)) a_nil)) a_nil)))))) (x_cons (x_expr (y_app (s_name (pv 9)) (s_tup (a_cons (s_tup (a_cons s_str (a_cons s_int (a_cons (s_name (pv 3)) (a_cons (s_name (pv 6)) a_nil))))) (a_cons (s_tup (a_cons s_str (a_cons s_none (a_cons (s_name (pv 3)) (a_cons (s_name (pv 6)) a_nil))))) (a_cons (s_tup (a_cons (s_tup (a_cons (s_tup (a_cons s_int (a_cons s_str a_nil))) (a_cons (s_tup (a_cons s_int (a_cons s_str a_nil))) a_nil))) a_nil)) a_nil)))))) (x_cons (x_expr (y_app (s_name (pv 9)) (s_tup (a_cons (s_tup (a_cons s_str (a_cons s_int (a_cons (s_name (pv 2)) (a_cons (s_name (pv 6)) a_nil))))) (a_cons (s_tup (a_cons s_str (a_cons s_int (a_cons (s_name (pv 2)) (a_cons (s_name (pv 6)) a_nil))))) (a_cons (s_tup (a_cons (s_tup (a_cons (s_tup (a_cons s_int (a_cons s_str a_nil))) (a_cons (s_tup (a_cons s_int (a_cons s_str a_nil))) a_nil))) a_nil)) a_nil)))))) (x_cons (x_expr (y_app (s_name (pv 9)) (s_tup (a_cons (s_tup (a_cons s_str (a_cons (s_name (pv 2)) (a_cons (s_name (pv 6)) a_nil)))) (a_cons (s_tup (a_cons s_str (a_cons (s_name (pv 2)) (a_cons (s_name (pv 6)) a_nil)))) (a_cons (s_tup (a_cons (s_tup (a_cons (s_tup (a_cons s_int (a_cons s_str a_nil))) (a_cons (s_tup (a_cons s_int (a_cons s_str a_nil))) a_nil))) a_nil)) a_nil)))))) (x_cons (x_expr (y_app (s_name (pv 9)) (s_tup (a_cons (s_tup (a_cons s_str (a_cons (s_name (pv 3)) (a_cons (s_name (pv 5)) a_nil)))) (a_cons (s_tup (a_cons s_str (a_cons (s_name (pv 3)) (a_cons (s_name (pv 5)) a_nil)))) (a_cons (s_tup (a_cons (s_tup (a_cons (s_tup (a_cons s_int (a_cons s_str a_nil))) (a_cons (s_tup (a_cons s_int (a_cons s_str a_nil))) a_nil))) a_nil)) a_nil)))))) (x_cons (x_asg (pv_frz (s_lst (a_cons (s_tup (a_cons (s_tup (a_cons s_int (a_cons s_str a_nil))) (a_cons (s_tup (a_cons s_int (a_cons s_str a_nil))) a_nil))) (a_cons (s_tup (a_cons (s_tup (a_cons s_int (a_cons s_str a_nil))) (a_cons (s_tup (a_cons s_int (a_cons s_str a_nil))) a_nil))) (a_cons (s_tup (a_cons (s_tup (a_cons s_int (a_cons s_str a_nil))) (a_cons (s_tup (a_cons s_int (a_cons s_str a_nil))) a_nil))) a_nil))))) (t_name (pg_name (i := 10) B.nd rfl (by first | exact .inl rfl | exact .inr rfl)))) (x_cons (x_expr (y_app (s_name (pv 9)) (s_tup (a_cons (s_tup (a_cons s_str (a_cons (s_tup a_nil) (a_cons (s_name (pv 4)) a_nil)))) (a_cons (s_tup (a_cons s_str (a_cons (s_tup (a_cons s_int a_nil)) (a_cons (s_name (pv 4)) a_nil)))) (a_cons (k_tuple (by rfl) m_tuple (a_cons (s_name (pv 10)) a_nil)) a_nil)))))) (x_cons (x_asg (pv_frz (s_lst (a_cons (s_tup (a_cons (s_tup (a_cons s_int (a_cons s_str a_nil))) (a_cons (s_tup (a_cons s_int (a_cons s_str a_nil))) a_nil))) (a_cons (s_tup (a_cons (s_tup (a_cons s_int (a_cons s_str a_nil))) (a_cons (s_tup (a_cons s_int (a_cons s_str a_nil))) a_nil))) (a_cons (s_tup (a_cons (s_tup (a_cons s_int (a_cons s_str a_nil))) (a_cons (s_tup (a_cons s_int (a_cons s_str a_nil))) a_nil))) a_nil))))) (t_name (pg_name (i := 10) B.nd rfl (by first | exact .inl rfl | exact .inr rfl)))) (x_cons (x_expr (y_app (s_name (pv 9)) (s_tup (a_cons (s_tup (a_cons s_str (a_cons (s_tup (a_cons s_int a_nil)) (a_cons (s_name (pv 4)) a_nil)))) (a_cons (s_tup (a_cons s_str (a_cons (s_tup (a_cons s_int a_nil)) (a_cons (s_name (pv 4)) a_nil)))) (a_cons (k_tuple (by rfl) m_tuple (a_cons (s_name (pv 10)) a_nil)) a_nil)))))) (x_cons (x_asg (pv_frz (s_lst (a_cons (s_tup (a_cons (s_tup (a_cons (s_sub (s_pow s_int s_int) s_int) (a_cons s_str a_nil))) (a_cons (s_tup (a_cons (s_pow s_int s_int) (a_cons s_str a_nil))) a_nil))) (a_cons (s_tup (a_cons (s_tup (a_cons (s_sub (s_pow s_int s_int) s_int) (a_cons s_str a_nil))) (a_cons (s_tup (a_cons (s_pow s_int s_int) (a_cons s_str a_nil))) a_nil))) a_nil)))) (t_name (pg_name (i := 10) B.nd rfl (by first | exact .inl rfl | exact .inr rfl)))) (x_cons (x_expr (y_app (s_name (pv 9)) (s_tup (a_cons (s_tup (a_cons s_str (a_cons (s_sub (s_pow s_int s_int) s_int) (a_cons (s_name (pv 8)) a_nil)))) (a_cons (s_tup (a_cons s_str (a_cons (s_pow s_int s_int) (a_cons (s_name (pv 8)) a_nil)))) (a_cons (s_tup (a_cons (s_ix (s_name (pv 10)) s_int (fun _ _ => rfl)) (a_cons (s_ix (s_name (pv 10)) s_int (fun _ _ => rfl)) a_nil))) a_nil)))))) (x_one (x_ret (s_name (pv 9)))))))))))))))))))))))))))))
noncomputable def sb_raced : Sv := (sSeq (sIf (bAnd (mCmp gNotN (mN 1) (mK .none)) (mCmp (gI fun i j => decide (i ≤ j)) (mBin fIx (mN 1) (mK (.int 0))) (mN 0))) (sRet (mN 1)) sNil) (sSeq (sAsg (gNm 2) (mV (mCall sem_later (aCons (mV (mN 2)) (aCons (mV (mN 0)) aNil))))) (sSeq (sIf (bOr (mCmp gIsN (mN 2) (mK .none)) (bAnd (mCmp gNotN (mN 1) (mK .none)) (mCmp (gI fun i j => decide (i ≤ j)) (mBin fIx (mN 1) (mK (.int 0))) (mBin fIx (mN 2) (mK (.int 0)))))) (sRet (mN 1)) sNil) (sRet (mN 2)))))
noncomputable def sem_raced : Fs := bodyF 3 3 sb_raced
theorem kn_raced (D : Df K mg "raced" st_raced) (G_later : Kn P w K mg base "later" 1 sem_later) : Kn P w K mg base "raced" 2 sem_raced :=
  kn_def (k := 1) (N := ["number", "first", "second"]) (ps := ["number", "first", "second"]) (sb := sb_raced) D ⟨rfl, rfl, rfl, by decide +kernel, rfl, by decide +kernel, by decide +kernel⟩ (fun _ _ _ _ _ _ us hl => match us, hl with | [_, _, _], _ => rfl) (fun cdv f A outer s H E B =>
    (x_cons (x_if (PW.pt (w_and (t_notN (s_name (pv 1)) s_none) (w_and1 (t_le (s_ix (s_name (pv 1)) s_int (fun _ _ => rfl)) (s_name (pv 0)))))) (x_one (x_ret (s_name (pv 1)))) x_nil) (x_cons (x_asg (pv_frz (s_call B G_later (by decide) (by rfl) (a_cons (s_name (pv 2)) (a_cons (s_name (pv 0)) a_nil)))) (t_name (pg_name (i := 2) B.nd rfl (by first | exact .inl rfl | exact .inr rfl)))) (x_cons (x_if (PW.pt (w_or (t_isN (s_name (pv 2)) s_none) (w_or1 (PW.pt (w_and (t_notN (s_name (pv 1)) s_none) (w_and1 (t_le (s_ix (s_name (pv 1)) s_int (fun _ _ => rfl)) (s_ix (s_name (pv 2)) s_int (fun _ _ => rfl))))))))) (x_one (x_ret (s_name (pv 1)))) x_nil) (x_one (x_ret (s_name (pv 2))))))))
noncomputable def sb_hedged : Sv := (sSeq (sIf (bAnd (mCmp gNotN (mN 1) (mK .none)) (mCmp (gI fun i j => decide (i ≤ j)) (mBin fIx (mN 1) (mK (.int 0))) (mN 0))) (sRet (eIf (mTru (mCall sem_is_failure (aCons (mV (mN 1)) aNil))) (mCall sem_later (aCons (mV (mN 2)) (aCons (mV (mBin fIx (mN 1) (mK (.int 0)))) aNil))) (mN 1))) sNil) (sSeq (sAsg (gNm 2) (mV (mCall sem_later (aCons (mV (mN 2)) (aCons (mV (mN 0)) aNil))))) (sSeq (sAsg (gNm 3) (mV (mLc (iOf (mTup (aCons (mV (mN 1)) (aCons (mV (mN 2)) aNil)))) (gNm 4) (mTru (mCall sem_is_ok (aCons (mV (mN 4)) aNil))) (mBin fIx (mN 4) (mK (.int 0))) [4]))) (sSeq (sIf (mCmp gNe (mN 3) (mLst aNil)) (sRet (mTup (aCons (mV (mCal (g1 fMin1) (aCons (mV (mN 3)) aNil))) (aCons (mV (mK (.str "ok"))) aNil)))) sNil) (sRet (eIf (bOr (mCmp gIsN (mN 1) (mK .none)) (mCmp gIsN (mN 2) (mK .none))) (mK .none) (mCal gMax2D (aCons (mV (mN 1)) (aCons (mV (mN 2)) aNil)))))))))
noncomputable def sem_hedged : Fs := bodyF 5 3 sb_hedged
theorem kn_hedged (D : Df K mg "hedged" st_hedged) (G_is_failure : Kn P w K mg base "is_failure" 1 sem_is_failure) (G_is_ok : Kn P w K mg base "is_ok" 1 sem_is_ok) (G_later : Kn P w K mg base "later" 1 sem_later) (m_max : mg "max" = none) (m_min : mg "min" = none) (c_OK : ∃ t, mg "OK" = some (.str "ok" t)) : Kn P w K mg base "hedged" 2 sem_hedged :=
  kn_def (k := 1) (N := ["number", "first", "second", "good", "one"]) (ps := ["number", "first", "second"]) (sb := sb_hedged) D ⟨rfl, rfl, rfl, by decide +kernel, rfl, by decide +kernel, by decide +kernel⟩ (fun _ _ _ _ _ _ us hl => match us, hl with | [_, _, _], _ => rfl) (fun cdv f A outer s H E B =>
    (x_cons (x_if (PW.pt (w_and (t_notN (s_name (pv 1)) s_none) (w_and1 (t_le (s_ix (s_name (pv 1)) s_int (fun _ _ => rfl)) (s_name (pv 0)))))) (x_one (x_ret (s_ifE (s_test (s_call B G_is_failure (by decide) (by rfl) (a_cons (s_name (pv 1)) a_nil)) (fun _ => rfl)) (s_call B G_later (by decide) (by rfl) (a_cons (s_name (pv 2)) (a_cons (s_ix (s_name (pv 1)) s_int (fun _ _ => rfl)) a_nil))) (s_name (pv 1))))) x_nil) (x_cons (x_asg (pv_frz (s_call B G_later (by decide) (by rfl) (a_cons (s_name (pv 2)) (a_cons (s_name (pv 0)) a_nil)))) (t_name (pg_name (i := 2) B.nd rfl (by first | exact .inl rfl | exact .inr rfl)))) (x_cons (x_setLc (i := 3) (own := [("one", 4)]) B.cm B.nd rfl rfl rfl (i_seq (s_tup (a_cons (s_name (pv 1)) (a_cons (s_name (pv 2)) a_nil)))) (show BlkOk ["number", "first", "second", "good", "one"] (defScope st_hedged) _ _ from ⟨rfl, by decide +kernel, by decide +kernel, by decide +kernel, by decide +kernel⟩) (fun s1 H1 A1 cl1 fp1 => (t_name (pg_name (i := 4) (B.blk s1 H1 _ _ fp1).nd rfl (by first | exact .inl rfl | exact .inr rfl)))) (fun s1 H1 A1 cl1 fp1 => (pts_if (s_test (s_call (B.blk s1 H1 _ _ fp1) G_is_ok (by decide) (by rfl) (a_cons (s_name (pv 4)) a_nil)) (fun _ => rfl)))) (fun s1 H1 A1 cl1 fp1 => (s_ix (s_name (pv 4)) s_int (fun _ _ => rfl))) (by decide) (by intro _; rfl) mV (.inl rfl)) (x_cons (x_if (t_ne B (s_name (pv 3)) (s_lst a_nil)) (x_one (x_ret (s_tup (a_cons (k_min1 B (by rfl) m_min (a_cons (s_name (pv 3)) a_nil)) (a_cons (s_gs (by rfl) c_OK) a_nil))))) x_nil) (x_one (x_ret (s_ifE (PW.pt (w_or (t_isN (s_name (pv 1)) s_none) (w_or1 (t_isN (s_name (pv 2)) s_none)))) s_none (k_max2D B (by rfl) m_max (a_cons (s_name (pv 1)) (a_cons (s_name (pv 2)) a_nil)))))))))))
noncomputable def sb_both_ended : Sv := (sSeq (sAsg (gNm 2) (mV (mLc (iOf (mTup (aCons (mV (mN 0)) (aCons (mV (mN 1)) aNil)))) (gNm 3) (mTru (mCall sem_is_failure (aCons (mV (mN 3)) aNil))) (mBin fIx (mN 3) (mK (.int 0))) [3]))) (sSeq (sIf (mCmp gNe (mN 2) (mLst aNil)) (sRet (mTup (aCons (mV (mCal (g1 fMin1) (aCons (mV (mN 2)) aNil))) (aCons (mV (mK (.str "fail"))) aNil)))) sNil) (sRet (eIf (bOr (mCmp gIsN (mN 0) (mK .none)) (mCmp gIsN (mN 1) (mK .none))) (mK .none) (mCal gMax2D (aCons (mV (mN 0)) (aCons (mV (mN 1)) aNil)))))))
noncomputable def sem_both_ended : Fs := bodyF 4 2 sb_both_ended
theorem kn_both_ended (D : Df K mg "both_ended" st_both_ended) (G_is_failure : Kn P w K mg base "is_failure" 1 sem_is_failure) (m_max : mg "max" = none) (m_min : mg "min" = none) (c_FAIL : ∃ t, mg "FAIL" = some (.str "fail" t)) : Kn P w K mg base "both_ended" 2 sem_both_ended :=
  kn_def (k := 1) (N := ["first", "second", "bad", "one"]) (ps := ["first", "second"]) (sb := sb_both_ended) D ⟨rfl, rfl, rfl, by decide +kernel, rfl, by decide +kernel, by decide +kernel⟩ (fun _ _ _ _ _ _ us hl => match us, hl with | [_, _], _ => rfl) (fun cdv f A outer s H E B =>
    (x_cons (x_setLc (i := 2) (own := [("one", 3)]) B.cm B.nd rfl rfl rfl (i_seq (s_tup (a_cons (s_name (pv 0)) (a_cons (s_name (pv 1)) a_nil)))) (show BlkOk ["first", "second", "bad", "one"] (defScope st_both_ended) _ _ from ⟨rfl, by decide +kernel, by decide +kernel, by decide +kernel, by decide +kernel⟩) (fun s1 H1 A1 cl1 fp1 => (t_name (pg_name (i := 3) (B.blk s1 H1 _ _ fp1).nd rfl (by first | exact .inl rfl | exact .inr rfl)))) (fun s1 H1 A1 cl1 fp1 => (pts_if (s_test (s_call (B.blk s1 H1 _ _ fp1) G_is_failure (by decide) (by rfl) (a_cons (s_name (pv 3)) a_nil)) (fun _ => rfl)))) (fun s1 H1 A1 cl1 fp1 => (s_ix (s_name (pv 3)) s_int (fun _ _ => rfl))) (by decide) (by intro _; rfl) mV (.inl rfl)) (x_cons (x_if (t_ne B (s_name (pv 2)) (s_lst a_nil)) (x_one (x_ret (s_tup (a_cons (k_min1 B (by rfl) m_min (a_cons (s_name (pv 2)) a_nil)) (a_cons (s_gs (by rfl) c_FAIL) a_nil))))) x_nil) (x_one (x_ret (s_ifE (PW.pt (w_or (t_isN (s_name (pv 0)) s_none) (w_or1 (t_isN (s_name (pv 1)) s_none)))) s_none (k_max2D B (by rfl) m_max (a_cons (s_name (pv 0)) (a_cons (s_name (pv 1)) a_nil)))))))))
noncomputable def sb_pair_key : Sv := (sRet (mTup (aCons (mV (mCall sem_ending_key (aCons (mV (mBin fIx (mN 0) (mK (.int 0)))) aNil))) (aCons (mV (mCall sem_ending_key (aCons (mV (mBin fIx (mN 0) (mK (.int 1)))) aNil))) aNil))))
noncomputable def sem_pair_key : Fs := bodyF 1 1 sb_pair_key
theorem kn_pair_key (D : Df K mg "pair_key" st_pair_key) (G_ending_key : Kn P w K mg base "ending_key" 1 sem_ending_key) : Kn P w K mg base "pair_key" 2 sem_pair_key :=
  kn_def (k := 1) (N := ["pair"]) (ps := ["pair"]) (sb := sb_pair_key) D ⟨rfl, rfl, rfl, by decide +kernel, rfl, by decide +kernel, by decide +kernel⟩ (fun _ _ _ _ _ _ us hl => match us, hl with | [_], _ => rfl) (fun cdv f A outer s H E B =>
    (x_one (x_ret (s_tup (a_cons (s_call B G_ending_key (by decide) (by rfl) (a_cons (s_ix (s_name (pv 0)) s_int (fun _ _ => rfl)) a_nil)) (a_cons (s_call B G_ending_key (by decide) (by rfl) (a_cons (s_ix (s_name (pv 0)) s_int (fun _ _ => rfl)) a_nil)) a_nil))))))
noncomputable def sb_responses_of : Sv := (sSeq (sAsg (gTp 5 (gCons9 (gNm 1) (gCons9 (gNm 2) (gCons9 (gNm 3) (gCons9 (gNm 4) (gCons9 (gNm 5) gNil9)))))) (mV (mN 0))) (sSeq (sAsg (gNm 6) (mV (mLc (iOf (mTup (aCons (mV (mTup (aCons (mV (mN 3)) (aCons (mV (mK (.str "ok"))) aNil)))) (aCons (mV (mTup (aCons (mV (mN 4)) (aCons (mV (mK (.str "fail"))) aNil)))) aNil)))) (gTp 2 (gCons9 (gNm 8) (gCons9 (gNm 9) gNil9))) (mCmp gNotN (mN 8) (mK .none)) (mTup (aCons (mV (mN 8)) (aCons (mV (mN 9)) aNil))) [8, 9]))) (sSeq (sExp (mCall sem_check_count (aCons (mV (mBin fAdd (mCal (g1 fSum) (aCons (mV (mLc (iOf (mN 6)) (gTp 2 (gCons9 (gNm 8) (gCons9 (gNm 9) gNil9))) ttY (mBin fAdd (mBin (fI (fun _ _ => true) fun i j => i - j) (mBin fIx (mN 8) (mK (.int 1))) (mBin fIx (mN 8) (mK (.int 0)))) (mK (.int 1))) [8, 9])) aNil)) (mCal (g1 fInt) (aCons (mV (mN 5)) aNil)))) aNil))) (sSeq (sAsg (gNm 7) (mVc (mBin fMulA (mLst (aCons (mV (mK .none)) aNil)) (mCal (g1 fInt) (aCons (mV (mN 5)) aNil))))) (sSeq (sFor (iOf (mN 6)) (gTp 2 (gCons9 (gNm 8) (gCons9 (gNm 9) gNil9))) (sExp (mExt (mN 7) (mLc (iRg2 (aCons (mV (mBin fIx (mN 8) (mK (.int 0)))) (aCons (mV (mBin fAdd (mBin fIx (mN 8) (mK (.int 1))) (mK (.int 1)))) aNil))) (gNm 10) ttY (mTup (aCons (mV (mN 10)) (aCons (mV (mN 9)) aNil))) [10])))) (sRet (mN 7)))))))
noncomputable def sem_responses_of : Fs := bodyF 11 1 sb_responses_of
theorem kn_responses_of (D : Df K mg "responses_of" st_responses_of) (G_check_count : Kn P w K mg base "check_count" 1 sem_check_count) (m_int : mg "int" = none) (m_range : mg "range" = none) (m_sum : mg "sum" = none) (c_FAIL : ∃ t, mg "FAIL" = some (.str "fail" t)) (c_OK : ∃ t, mg "OK" = some (.str "ok" t)) : Kn P w K mg base "responses_of" 2 sem_responses_of :=
  kn_def (k := 1) (N := ["call", "kind", "label", "good", "bad", "hangs", "spans", "found", "span", "outcome", "moment"]) (ps := ["call"]) (sb := sb_responses_of) D ⟨rfl, rfl, rfl, by decide +kernel, rfl, by decide +kernel, by decide +kernel⟩ (fun _ _ _ _ _ _ us hl => match us, hl with | [_], _ => rfl) (fun cdv f A outer s H E B =>
    (x_cons (x_asg (pv_frz (s_name (pv 0))) (t_tup B.cm (t_cons (t_name (pg_name (i := 1) B.nd rfl (by first | exact .inl rfl | exact .inr rfl))) (t_cons (t_name (pg_name (i := 2) B.nd rfl (by first | exact .inl rfl | exact .inr rfl))) (t_cons (t_name (pg_name (i := 3) B.nd rfl (by first | exact .inl rfl | exact .inr rfl))) (t_cons (t_name (pg_name (i := 4) B.nd rfl (by first | exact .inl rfl | exact .inr rfl))) (t_cons (t_name (pg_name (i := 5) B.nd rfl (by first | exact .inl rfl | exact .inr rfl))) t_nil))))))) (x_cons (x_setLc (i := 6) (own := [("span", 8), ("outcome", 9)]) B.cm B.nd rfl rfl rfl (i_seq (s_tup (a_cons (s_tup (a_cons (s_name (pv 3)) (a_cons (s_gs (by rfl) c_OK) a_nil))) (a_cons (s_tup (a_cons (s_name (pv 4)) (a_cons (s_gs (by rfl) c_FAIL) a_nil))) a_nil)))) (show BlkOk ["call", "kind", "label", "good", "bad", "hangs", "spans", "found", "span", "outcome", "moment"] (defScope st_responses_of) _ _ from ⟨rfl, by decide +kernel, by decide +kernel, by decide +kernel, by decide +kernel⟩) (fun s1 H1 A1 cl1 fp1 => (t_tup (B.blk s1 H1 _ _ fp1).cm (t_cons (t_name (pg_name (i := 8) (B.blk s1 H1 _ _ fp1).nd rfl (by first | exact .inl rfl | exact .inr rfl))) (t_cons (t_name (pg_name (i := 9) (B.blk s1 H1 _ _ fp1).nd rfl (by first | exact .inl rfl | exact .inr rfl))) t_nil)))) (fun s1 H1 A1 cl1 fp1 => (pts_if (t_notN (s_name (pv 8)) s_none))) (fun s1 H1 A1 cl1 fp1 => (s_tup (a_cons (s_name (pv 8)) (a_cons (s_name (pv 9)) a_nil)))) (by decide) (by intro _; rfl) mV (.inl rfl)) (x_cons (x_expr (s_call B G_check_count (by decide) (by rfl) (a_cons (s_add (k_sum B (by rfl) m_sum (a_cons (s_lc (own := [("span", 8), ("outcome", 9)]) B.cm B.nd (i_seq (s_name (pv 6))) (show BlkOk ["call", "kind", "label", "good", "bad", "hangs", "spans", "found", "span", "outcome", "moment"] (defScope st_responses_of) _ _ from ⟨rfl, by decide +kernel, by decide +kernel, by decide +kernel, by decide +kernel⟩) (fun s1 H1 A1 cl1 fp1 => (t_tup (B.blk s1 H1 _ _ fp1).cm (t_cons (t_name (pg_name (i := 8) (B.blk s1 H1 _ _ fp1).nd rfl (by first | exact .inl rfl | exact .inr rfl))) (t_cons (t_name (pg_name (i := 9) (B.blk s1 H1 _ _ fp1).nd rfl (by first | exact .inl rfl | exact .inr rfl))) t_nil)))) (fun s1 H1 A1 cl1 fp1 => pts_yes) (fun s1 H1 A1 cl1 fp1 => (s_add (s_sub (s_ix (s_name (pv 8)) s_int (fun _ _ => rfl)) (s_ix (s_name (pv 8)) s_int (fun _ _ => rfl))) s_int)) (by decide)) a_nil)) (k_int (by rfl) m_int (a_cons (s_name (pv 5)) a_nil))) a_nil))) (x_cons (x_asg (pv_cell (s_mulA (s_lst (a_cons s_none a_nil)) (k_int (by rfl) m_int (a_cons (s_name (pv 5)) a_nil)))) (t_name (pg_name (i := 7) B.nd rfl (by first | exact .inl rfl | exact .inr rfl)))) (x_cons (x_for B.hp B.cm (i_seq (s_name (pv 6))) (t_tup B.cm (t_cons (t_name (pg_name (i := 8) B.nd rfl (by first | exact .inl rfl | exact .inr rfl))) (t_cons (t_name (pg_name (i := 9) B.nd rfl (by first | exact .inl rfl | exact .inr rfl))) t_nil))) (x_one (x_expr (y_ext (s_name (pv 7)) (s_lc (own := [("moment", 10)]) B.cm B.nd (i_rng2 (by rfl) m_range (a_cons (s_ix (s_name (pv 8)) s_int (fun _ _ => rfl)) (a_cons (s_add (s_ix (s_name (pv 8)) s_int (fun _ _ => rfl)) s_int) a_nil))) (show BlkOk ["call", "kind", "label", "good", "bad", "hangs", "spans", "found", "span", "outcome", "moment"] (defScope st_responses_of) _ _ from ⟨rfl, by decide +kernel, by decide +kernel, by decide +kernel, by decide +kernel⟩) (fun s1 H1 A1 cl1 fp1 => (t_name (pg_name (i := 10) (B.blk s1 H1 _ _ fp1).nd rfl (by first | exact .inl rfl | exact .inr rfl)))) (fun s1 H1 A1 cl1 fp1 => pts_yes) (fun s1 H1 A1 cl1 fp1 => (s_tup (a_cons (s_name (pv 10)) (a_cons (s_name (pv 9)) a_nil)))) (by decide)))))) (x_one (x_ret (s_name (pv 7))))))))))
noncomputable def sb_after_attempt : Sv := (sSeq (sIf (bAnd (mCmp (gI fun i j => decide (i < j)) (mN 1) (mCal (gLen) (aCons (mV (mN 0)) aNil))) (mTru (mCall sem_is_failure (aCons (mV (mN 2)) aNil)))) (sRet (mCall sem_later (aCons (mV (mN 3)) (aCons (mV (mBin fAdd (mBin fIx (mN 2) (mK (.int 0))) (mBin fIx (mN 0) (mN 1)))) aNil)))) sNil) (sRet (mN 2)))
noncomputable def sem_after_attempt : Fs := bodyF 4 4 sb_after_attempt
theorem kn_after_attempt (D : Df K mg "after_attempt" st_after_attempt) (G_is_failure : Kn P w K mg base "is_failure" 1 sem_is_failure) (G_later : Kn P w K mg base "later" 1 sem_later) (m_len : mg "len" = none) : Kn P w K mg base "after_attempt" 2 sem_after_attempt :=
  kn_def (k := 1) (N := ["pauses", "turn", "ending", "more"]) (ps := ["pauses", "turn", "ending", "more"]) (sb := sb_after_attempt) D ⟨rfl, rfl, rfl, by decide +kernel, rfl, by decide +kernel, by decide +kernel⟩ (fun _ _ _ _ _ _ us hl => match us, hl with | [_, _, _, _], _ => rfl) (fun cdv f A outer s H E B =>
    (x_cons (x_if (PW.pt (w_and (t_lt (s_name (pv 1)) (k_len B (by rfl) m_len (a_cons (s_name (pv 0)) a_nil))) (w_and1 (s_test (s_call B G_is_failure (by decide) (by rfl) (a_cons (s_name (pv 2)) a_nil)) (fun _ => rfl))))) (x_one (x_ret (s_call B G_later (by decide) (by rfl) (a_cons (s_name (pv 3)) (a_cons (s_add (s_ix (s_name (pv 2)) s_int (fun _ _ => rfl)) (s_ix (s_name (pv 0)) (s_name (pv 1)) (fun _ _ => rfl))) a_nil))))) x_nil) (x_one (x_ret (s_name (pv 2))))))
noncomputable def sb__law_of : Sv := (sRet (mBin fIx (mN 1) (mCall sem__law_next (aCons (mVc (mN 0)) (aCons (mV (mCal (gLen) (aCons (mV (mN 1)) aNil))) aNil)))))
noncomputable def sem__law_of : Fs := bodyF 2 2 sb__law_of
theorem kn__law_of (D : Df K mg "_law_of" st__law_of) (G__law_next : Kn P w K mg base "_law_next" 1 sem__law_next) (m_len : mg "len" = none) : Kn P w K mg base "_law_of" 2 sem__law_of :=
  kn_def (k := 1) (N := ["_law_urn_here", "_law_some"]) (ps := ["_law_urn_here", "_law_some"]) (sb := sb__law_of) D ⟨rfl, rfl, rfl, by decide +kernel, rfl, by decide +kernel, by decide +kernel⟩ (fun _ _ _ _ _ _ us hl => match us, hl with | [_, _], _ => rfl) (fun cdv f A outer s H E B =>
    (x_one (x_ret (s_ix (s_name (pv 1)) (s_call B G__law_next (by decide) (by rfl) (a_consC (s_name (pv 0)) (a_cons (k_len B (by rfl) m_len (a_cons (s_name (pv 1)) a_nil)) a_nil))) (fun _ _ => rfl)))))
noncomputable def sb_without_numbers (sem : Fs) : Sv := (sSeq (sAsg (gNm 1) (mV (mLc (iOf (mCall sem_inner (aCons (mV (mN 0)) aNil))) (gNm 3) ttY (mCall sem (aCons (mV (mN 3)) aNil)) [3]))) (sSeq (sAsg (gNm 2) (mV (mCall sem_with_inner (aCons (mV (mN 0)) (aCons (mV (mN 1)) aNil))))) (sRet (eIf (mCmp (gIn false) (mBin fIx (mN 2) (mK (.int 0))) (mK (.tuple [.str "wait", .str "retry", .str "fallback", .str "timeout", .str "race", .str "hedge"]))) (mBin fAdd (mTup (aCons (mV (mBin fIx (mN 2) (mK (.int 0)))) (aCons (mV (mK .none)) aNil))) (mSl (mN 2) (oSome (mK (.int 2))) oNone)) (mN 2)))))
noncomputable def sem_without_numbers : Nat → Fs
  | 0 => fun _ _ => .no
  | n + 1 => bodyF 4 1 (sb_without_numbers (sem_without_numbers n))
theorem kn_without_numbers_all (D : Df K mg "without_numbers" st_without_numbers) (G_inner : Kn P w K mg base "inner" 1 sem_inner) (G_with_inner : Kn P w K mg base "with_inner" 1 sem_with_inner) (tup_NUMBERED : TupC K mg "NUMBERED" ["wait", "retry", "fallback", "timeout", "race", "hedge"]) : ∀ n, Kn P w K mg base "without_numbers" (2 + 1 * n) (sem_without_numbers n)
  | 0 => Kn.less (kn_def (k := 1) (N := ["policy", "parts", "found", "part"]) (ps := ["policy"]) (sb := fun _ _ => .no) D ⟨rfl, rfl, rfl, by decide +kernel, rfl, by decide +kernel, by decide +kernel⟩ (fun _ _ _ _ _ _ us hl => match us, hl with | [_], _ => rfl) (fun cdv f A outer s H E B =>
    x_no)) (fun _ _ => .inl rfl)
  | n + 1 => by
    have G_without_numbers := kn_without_numbers_all D G_inner G_with_inner tup_NUMBERED n
    exact kn_def (k := 2 + 1 * n + 0) (N := ["policy", "parts", "found", "part"]) (ps := ["policy"]) (sb := sb_without_numbers (sem_without_numbers n)) D ⟨rfl, rfl, rfl, by decide +kernel, rfl, by decide +kernel, by decide +kernel⟩ (fun _ _ _ _ _ _ us hl => match us, hl with | [_], _ => rfl) (fun cdv f A outer s H E B =>
    (x_cons (x_setLc (i := 1) (own := [("part", 3)]) B.cm B.nd rfl rfl rfl (i_seq (s_call B G_inner (by omega) (by rfl) (a_cons (s_name (pv 0)) a_nil))) (show BlkOk ["policy", "parts", "found", "part"] (defScope st_without_numbers) _ _ from ⟨rfl, by decide +kernel, by decide +kernel, by decide +kernel, by decide +kernel⟩) (fun s1 H1 A1 cl1 fp1 => (t_name (pg_name (i := 3) (B.blk s1 H1 _ _ fp1).nd rfl (by first | exact .inl rfl | exact .inr rfl)))) (fun s1 H1 A1 cl1 fp1 => pts_yes) (fun s1 H1 A1 cl1 fp1 => (s_call (B.blk s1 H1 _ _ fp1) G_without_numbers (by omega) (by rfl) (a_cons (s_name (pv 3)) a_nil))) (by decide) (by intro _; rfl) mV (.inl rfl)) (x_cons (x_asg (pv_frz (s_call B G_with_inner (by omega) (by rfl) (a_cons (s_name (pv 0)) (a_cons (s_name (pv 1)) a_nil)))) (t_name (pg_name (i := 2) B.nd rfl (by first | exact .inl rfl | exact .inr rfl)))) (x_one (x_ret (s_ifE (t_inC (neg := false) op_in_seq B.hK tup_NUMBERED (by rfl) (s_ix (s_name (pv 2)) s_int (fun _ _ => rfl)) rfl) (s_add (s_tup (a_cons (s_ix (s_name (pv 2)) s_int (fun _ _ => rfl)) (a_cons s_none a_nil))) (s_sl (s_name (pv 2)) (o_some s_int) o_none)) (s_name (pv 2))))))))
theorem kn_without_numbers (D : Df K mg "without_numbers" st_without_numbers) (G_inner : Kn P w K mg base "inner" 1 sem_inner) (G_with_inner : Kn P w K mg base "with_inner" 1 sem_with_inner) (tup_NUMBERED : TupC K mg "NUMBERED" ["wait", "retry", "fallback", "timeout", "race", "hedge"]) : Kn P w K mg base "without_numbers" 27 (sem_without_numbers 25) := kn_without_numbers_all D G_inner G_with_inner tup_NUMBERED 25
noncomputable def sb_combined : Sv := (sSeq (sAsg (gNm 3) (mV (mBin fIx (mN 0) (mK (.int 0))))) (sSeq (sIf (mCmp gEq (mN 3) (mK (.str "both"))) (sRet (mCall sem_both_ended (aCons (mV (mN 1)) (aCons (mV (mN 2)) aNil)))) sNil) (sSeq (sIf (mCmp gEq (mN 3) (mK (.str "then"))) (sRet (eIf (mTru (mCall sem_is_ok (aCons (mV (mN 1)) aNil))) (mCall sem_later (aCons (mV (mN 2)) (aCons (mV (mBin fIx (mN 1) (mK (.int 0)))) aNil))) (mN 1))) sNil) (sSeq (sAsg (gNm 4) (mV (mBin fIx (mN 0) (mK (.int 1))))) (sSeq (sIf (mCmp gIsN (mN 4) (mK .none)) (sRet (mN 1)) sNil) (sSeq (sIf (mCmp gEq (mN 3) (mK (.str "fallback"))) (sRet (eIf (mTru (mCall sem_is_failure (aCons (mV (mN 1)) aNil))) (mCall sem_later (aCons (mV (mN 2)) (aCons (mV (mBin fAdd (mBin fIx (mN 1) (mK (.int 0))) (mN 4))) aNil))) (mN 1))) sNil) (sRet (eIf (mCmp gEq (mN 3) (mK (.str "race"))) (mCall sem_raced (aCons (mV (mN 4)) (aCons (mV (mN 1)) (aCons (mV (mN 2)) aNil)))) (mCall sem_hedged (aCons (mV (mN 4)) (aCons (mV (mN 1)) (aCons (mV (mN 2)) aNil))))))))))))
noncomputable def sem_combined : Fs := bodyF 5 3 sb_combined
theorem kn_combined (D : Df K mg "combined" st_combined) (G_both_ended : Kn P w K mg base "both_ended" 2 sem_both_ended) (G_hedged : Kn P w K mg base "hedged" 2 sem_hedged) (G_is_failure : Kn P w K mg base "is_failure" 1 sem_is_failure) (G_is_ok : Kn P w K mg base "is_ok" 1 sem_is_ok) (G_later : Kn P w K mg base "later" 1 sem_later) (G_raced : Kn P w K mg base "raced" 2 sem_raced) : Kn P w K mg base "combined" 3 sem_combined :=
  kn_def (k := 2) (N := ["policy", "first", "second", "kind", "number"]) (ps := ["policy", "first", "second"]) (sb := sb_combined) D ⟨rfl, rfl, rfl, by decide +kernel, rfl, by decide +kernel, by decide +kernel⟩ (fun _ _ _ _ _ _ us hl => match us, hl with | [_, _, _], _ => rfl) (fun cdv f A outer s H E B =>
    (x_cons (x_asg (pv_frz (s_ix (s_name (pv 0)) s_int (fun _ _ => rfl))) (t_name (pg_name (i := 3) B.nd rfl (by first | exact .inl rfl | exact .inr rfl)))) (x_cons (x_if (t_eq B (s_name (pv 3)) s_str) (x_one (x_ret (s_call B G_both_ended (by decide) (by rfl) (a_cons (s_name (pv 1)) (a_cons (s_name (pv 2)) a_nil))))) x_nil) (x_cons (x_if (t_eq B (s_name (pv 3)) s_str) (x_one (x_ret (s_ifE (s_test (s_call B G_is_ok (by decide) (by rfl) (a_cons (s_name (pv 1)) a_nil)) (fun _ => rfl)) (s_call B G_later (by decide) (by rfl) (a_cons (s_name (pv 2)) (a_cons (s_ix (s_name (pv 1)) s_int (fun _ _ => rfl)) a_nil))) (s_name (pv 1))))) x_nil) (x_cons (x_asg (pv_frz (s_ix (s_name (pv 0)) s_int (fun _ _ => rfl))) (t_name (pg_name (i := 4) B.nd rfl (by first | exact .inl rfl | exact .inr rfl)))) (x_cons (x_if (t_isN (s_name (pv 4)) s_none) (x_one (x_ret (s_name (pv 1)))) x_nil) (x_cons (x_if (t_eq B (s_name (pv 3)) s_str) (x_one (x_ret (s_ifE (s_test (s_call B G_is_failure (by decide) (by rfl) (a_cons (s_name (pv 1)) a_nil)) (fun _ => rfl)) (s_call B G_later (by decide) (by rfl) (a_cons (s_name (pv 2)) (a_cons (s_add (s_ix (s_name (pv 1)) s_int (fun _ _ => rfl)) (s_name (pv 4))) a_nil))) (s_name (pv 1))))) x_nil) (x_one (x_ret (s_ifE (t_eq B (s_name (pv 3)) s_str) (s_call B G_raced (by decide) (by rfl) (a_cons (s_name (pv 4)) (a_cons (s_name (pv 1)) (a_cons (s_name (pv 2)) a_nil)))) (s_call B G_hedged (by decide) (by rfl) (a_cons (s_name (pv 4)) (a_cons (s_name (pv 1)) (a_cons (s_name (pv 2)) a_nil))))))))))))))
noncomputable def sb_joint_attempts : Sv := (sSeq (sAsg (gNm 3) (mV (mDcG (iOf (mN 2)) (gNm 6) ttY (mN 6) (mTup (aCons (mV (mN 6)) aNil)) [6]))) (sSeq (sFor (iRg1 (aCons (mV (mCal (gII (fun i j => if j > i then j else i)) (aCons (mV (mCal (gLen) (aCons (mV (mBin fIx (mN 0) (mK (.int 1)))) aNil))) (aCons (mV (mCal (gLen) (aCons (mV (mBin fIx (mN 1) (mK (.int 1)))) aNil))) aNil)))) aNil)) (gNm 4) (sSeq (sAsg (gNm 5) (mVc mD0)) (sSeq (sFor (iIt (mN 3)) (gTp 2 (gCons9 (gNm 6) (gCons9 (gNm 7) gNil9))) (sFor (iOf (mN 2)) (gNm 8) (sSeq (sAsg (gNm 9) (mV (mCall sem_after_attempt (aCons (mV (mBin fIx (mN 0) (mK (.int 1)))) (aCons (mV (mN 4)) (aCons (mV (mBin fIx (mN 6) (mK (.int 0)))) (aCons (mV (mBin fIx (mN 8) (mK (.int 0)))) aNil))))))) (sExp (mSetd (mN 5) (mTup (aCons (mV (mN 9)) (aCons (mV (mCall sem_after_attempt (aCons (mV (mBin fIx (mN 1) (mK (.int 1)))) (aCons (mV (mN 4)) (aCons (mV (mBin fIx (mN 6) (mK (.int 1)))) (aCons (mV (mBin fIx (mN 8) (mK (.int 1)))) aNil)))))) aNil))) (mBin fAdd (mN 7) (mTup (aCons (mV (mN 8)) aNil)))))))) (sSeq (sExp (mCall sem_check_count (aCons (mV (mCal (g1 fLenG) (aCons (mV (mN 5)) aNil))) aNil))) (sAsg (gNm 3) (mVzM (mN 5))))))) (sRet (mN 3))))
noncomputable def sem_joint_attempts : Fs := bodyF 10 3 sb_joint_attempts
theorem kn_joint_attempts (D : Df K mg "joint_attempts" st_joint_attempts) (G_after_attempt : Kn P w K mg base "after_attempt" 2 sem_after_attempt) (G_check_count : Kn P w K mg base "check_count" 1 sem_check_count) (m_len : mg "len" = none) (m_max : mg "max" = none) (m_range : mg "range" = none) : Kn P w K mg base "joint_attempts" 3 sem_joint_attempts :=
  kn_def (k := 2) (N := ["one", "other", "pairs", "found", "turn", "longer", "pair", "attempts", "more", "first"]) (ps := ["one", "other", "pairs"]) (sb := sb_joint_attempts) D ⟨rfl, rfl, rfl, by decide +kernel, rfl, by decide +kernel, by decide +kernel⟩ (fun _ _ _ _ _ _ us hl => match us, hl with | [_, _, _], _ => rfl) (fun cdv f A outer s H E B =>
    (x_cons (x_setDcG B (i := 3) (own := [("pair", 6)]) B.cm B.nd rfl rfl rfl (i_seq (s_name (pv 2))) (show BlkOk ["one", "other", "pairs", "found", "turn", "longer", "pair", "attempts", "more", "first"] (defScope st_joint_attempts) _ _ from ⟨rfl, by decide +kernel, by decide +kernel, by decide +kernel, by decide +kernel⟩) (fun s1 H1 A1 cl1 fp1 => (t_name (pg_name (i := 6) (B.blk s1 H1 _ _ fp1).nd rfl (by first | exact .inl rfl | exact .inr rfl)))) (fun s1 H1 A1 cl1 fp1 => pts_yes) (fun s1 H1 A1 cl1 fp1 => (s_name (pv 6))) (fun s1 H1 A1 cl1 fp1 => (s_tup (a_cons (s_name (pv 6)) a_nil))) (by decide) (by intro _; rfl)) (x_cons (x_for B.hp B.cm (i_rng1 (by rfl) m_range (a_cons (k_max B (by rfl) m_max (a_cons (k_len B (by rfl) m_len (a_cons (s_ix (s_name (pv 0)) s_int (fun _ _ => rfl)) a_nil)) (a_cons (k_len B (by rfl) m_len (a_cons (s_ix (s_name (pv 1)) s_int (fun _ _ => rfl)) a_nil)) a_nil))) a_nil)) (t_name (pg_name (i := 4) B.nd rfl (by first | exact .inl rfl | exact .inr rfl))) (x_cons (x_asg (pv_cell s_d0) (t_name (pg_name (i := 5) B.nd rfl (by first | exact .inl rfl | exact .inr rfl)))) (x_cons (x_for B.hp B.cm (i_it (s_name (pv 3))) (t_tup B.cm (t_cons (t_name (pg_name (i := 6) B.nd rfl (by first | exact .inl rfl | exact .inr rfl))) (t_cons (t_name (pg_name (i := 7) B.nd rfl (by first | exact .inl rfl | exact .inr rfl))) t_nil))) (x_one (x_for B.hp B.cm (i_seq (s_name (pv 2))) (t_name (pg_name (i := 8) B.nd rfl (by first | exact .inl rfl | exact .inr rfl))) (x_cons (x_asg (pv_frz (s_call B G_after_attempt (by decide) (by rfl) (a_cons (s_ix (s_name (pv 0)) s_int (fun _ _ => rfl)) (a_cons (s_name (pv 4)) (a_cons (s_ix (s_name (pv 6)) s_int (fun _ _ => rfl)) (a_cons (s_ix (s_name (pv 8)) s_int (fun _ _ => rfl)) a_nil)))))) (t_name (pg_name (i := 9) B.nd rfl (by first | exact .inl rfl | exact .inr rfl)))) (x_one (x_expr (s_setd B (s_name (pv 5)) (s_tup (a_cons (s_name (pv 9)) (a_cons (s_call B G_after_attempt (by decide) (by rfl) (a_cons (s_ix (s_name (pv 1)) s_int (fun _ _ => rfl)) (a_cons (s_name (pv 4)) (a_cons (s_ix (s_name (pv 6)) s_int (fun _ _ => rfl)) (a_cons (s_ix (s_name (pv 8)) s_int (fun _ _ => rfl)) a_nil))))) a_nil))) (s_add (s_name (pv 7)) (s_tup (a_cons (s_name (pv 8)) a_nil)))))))))) (x_cons (x_expr (s_call B G_check_count (by decide) (by rfl) (a_cons (k_lenG B (by rfl) m_len (a_cons (s_name (pv 5)) a_nil)) a_nil))) (x_one (x_asg (pv_goneM (s_name (pv 5))) (t_name (pg_name (i := 3) B.nd rfl (by first | exact .inl rfl | exact .inr rfl))))))))) (x_one (x_ret (s_name (pv 3)))))))
noncomputable def sb_joint_origins : Sv := (sSeq (sIf (mCmp gEq (mBin fIx (mN 0) (mK (.int 0))) (mK (.str "call"))) (sRet (mDcG (iOf (mCall sem_responses_of (aCons (mV (mN 0)) aNil))) (gNm 8) ttY (mTup (aCons (mV (mN 8)) (aCons (mV (mN 8)) aNil))) (mTup aNil) [8])) sNil) (sSeq (sIf (mCmp gEq (mBin fIx (mN 0) (mK (.int 0))) (mK (.str "wait"))) (sRet (mDg1 (mTup (aCons (mV (mTup (aCons (mV (mBin fIx (mN 0) (mK (.int 1)))) (aCons (mV (mK (.str "ok"))) aNil)))) (aCons (mV (mTup (aCons (mV (mBin fIx (mN 1) (mK (.int 1)))) (aCons (mV (mK (.str "ok"))) aNil)))) aNil))) (mTup aNil))) sNil) (sSeq (sAsg (gNm 3) (mV (mCal (g1 fListK) (aCons (mV (mFldD "Joint" "origins" (mBin fIx (mN 2) (mK (.int 0))))) aNil)))) (sSeq (sIf (mCmp gEq (mBin fIx (mN 0) (mK (.int 0))) (mK (.str "retry"))) (sRet (mCall sem_joint_attempts (aCons (mV (mN 0)) (aCons (mV (mN 1)) (aCons (mV (mN 3)) aNil))))) sNil) (sSeq (sIf (mCmp gEq (mBin fIx (mN 0) (mK (.int 0))) (mK (.str "timeout"))) (sRet (mDcG (iOf (mN 3)) (gNm 9) ttY (mTup (aCons (mV (mCall sem_timed_out (aCons (mV (mBin fIx (mN 0) (mK (.int 1)))) (aCons (mV (mBin fIx (mN 9) (mK (.int 0)))) aNil)))) (aCons (mV (mCall sem_timed_out (aCons (mV (mBin fIx (mN 1) (mK (.int 1)))) (aCons (mV (mBin fIx (mN 9) (mK (.int 1)))) aNil)))) aNil))) (mTup (aCons (mV (mN 9)) aNil)) [9])) sNil) (sSeq (sAsg (gNm 4) (mVc mD0)) (sSeq (sFor (iOf (mN 3)) (gNm 5) (sFor (iKd (mFldD "Joint" "origins" (mBin fIx (mN 2) (mK (.int 1))))) (gNm 6) (sSeq (sAsg (gNm 7) (mV (mCall sem_combined (aCons (mV (mN 0)) (aCons (mV (mBin fIx (mN 5) (mK (.int 0)))) (aCons (mV (mBin fIx (mN 6) (mK (.int 0)))) aNil)))))) (sExp (mSetd (mN 4) (mTup (aCons (mV (mN 7)) (aCons (mV (mCall sem_combined (aCons (mV (mN 1)) (aCons (mV (mBin fIx (mN 5) (mK (.int 1)))) (aCons (mV (mBin fIx (mN 6) (mK (.int 1)))) aNil))))) aNil))) (mTup (aCons (mV (mN 5)) (aCons (mV (mN 6)) aNil)))))))) (sRet (mN 4)))))))))
noncomputable def sem_joint_origins : Fs := bodyF 10 3 sb_joint_origins
theorem kn_joint_origins (D : Df K mg "joint_origins" st_joint_origins) (G_combined : Kn P w K mg base "combined" 3 sem_combined) (G_joint_attempts : Kn P w K mg base "joint_attempts" 3 sem_joint_attempts) (G_responses_of : Kn P w K mg base "responses_of" 2 sem_responses_of) (G_timed_out : Kn P w K mg base "timed_out" 1 sem_timed_out) (m_list : mg "list" = none) (c_CALL : ∃ t, mg "CALL" = some (.str "call" t)) (c_OK : ∃ t, mg "OK" = some (.str "ok" t)) (c_RETRY : ∃ t, mg "RETRY" = some (.str "retry" t)) (c_TIMEOUT : ∃ t, mg "TIMEOUT" = some (.str "timeout" t)) (c_WAIT : ∃ t, mg "WAIT" = some (.str "wait" t)) (cls_Joint : Cls K (He.ga K "Joint")) (noat_Joint_origins : PySem.W.findIn K (.ref (He.ga K "Joint")) "origins" = some none) : Kn P w K mg base "joint_origins" 4 sem_joint_origins :=
  kn_def (k := 3) (N := ["one", "other", "below", "pairs", "found", "first", "second", "ending", "response", "pair"]) (ps := ["one", "other", "below"]) (sb := sb_joint_origins) D ⟨rfl, rfl, rfl, by decide +kernel, rfl, by decide +kernel, by decide +kernel⟩ (fun _ _ _ _ _ _ us hl => match us, hl with | [_, _, _], _ => rfl) (fun cdv f A outer s H E B =>
    (x_cons (x_if (t_eq B (s_ix (s_name (pv 0)) s_int (fun _ _ => rfl)) (s_gs (by rfl) c_CALL)) (x_one (x_ret (s_dcG B (own := [("response", 8)]) B.cm B.nd (i_seq (s_call B G_responses_of (by decide) (by rfl) (a_cons (s_name (pv 0)) a_nil))) (show BlkOk ["one", "other", "below", "pairs", "found", "first", "second", "ending", "response", "pair"] (defScope st_joint_origins) _ _ from ⟨rfl, by decide +kernel, by decide +kernel, by decide +kernel, by decide +kernel⟩) (fun s1 H1 A1 cl1 fp1 => (t_name (pg_name (i := 8) (B.blk s1 H1 _ _ fp1).nd rfl (by first | exact .inl rfl | exact .inr rfl)))) (fun s1 H1 A1 cl1 fp1 => pts_yes) (fun s1 H1 A1 cl1 fp1 => (s_tup (a_cons (s_name (pv 8)) (a_cons (s_name (pv 8)) a_nil)))) (fun s1 H1 A1 cl1 fp1 => (s_tup a_nil)) (by decide)))) x_nil) (x_cons (x_if (t_eq B (s_ix (s_name (pv 0)) s_int (fun _ _ => rfl)) (s_gs (by rfl) c_WAIT)) (x_one (x_ret (s_dg1 B (s_tup (a_cons (s_tup (a_cons (s_ix (s_name (pv 0)) s_int (fun _ _ => rfl)) (a_cons (s_gs (by rfl) c_OK) a_nil))) (a_cons (s_tup (a_cons (s_ix (s_name (pv 1)) s_int (fun _ _ => rfl)) (a_cons (s_gs (by rfl) c_OK) a_nil))) a_nil))) (s_tup a_nil)))) x_nil) (x_cons (x_asg (pv_frz (k_listK B (by rfl) m_list (a_cons (s_fldD B.hK cls_Joint noat_Joint_origins (s_ix (s_name (pv 2)) s_int (fun _ _ => rfl))) a_nil))) (t_name (pg_name (i := 3) B.nd rfl (by first | exact .inl rfl | exact .inr rfl)))) (x_cons (x_if (t_eq B (s_ix (s_name (pv 0)) s_int (fun _ _ => rfl)) (s_gs (by rfl) c_RETRY)) (x_one (x_ret (s_call B G_joint_attempts (by decide) (by rfl) (a_cons (s_name (pv 0)) (a_cons (s_name (pv 1)) (a_cons (s_name (pv 3)) a_nil)))))) x_nil) (x_cons (x_if (t_eq B (s_ix (s_name (pv 0)) s_int (fun _ _ => rfl)) (s_gs (by rfl) c_TIMEOUT)) (x_one (x_ret (s_dcG B (own := [("pair", 9)]) B.cm B.nd (i_seq (s_name (pv 3))) (show BlkOk ["one", "other", "below", "pairs", "found", "first", "second", "ending", "response", "pair"] (defScope st_joint_origins) _ _ from ⟨rfl, by decide +kernel, by decide +kernel, by decide +kernel, by decide +kernel⟩) (fun s1 H1 A1 cl1 fp1 => (t_name (pg_name (i := 9) (B.blk s1 H1 _ _ fp1).nd rfl (by first | exact .inl rfl | exact .inr rfl)))) (fun s1 H1 A1 cl1 fp1 => pts_yes) (fun s1 H1 A1 cl1 fp1 => (s_tup (a_cons (s_call (B.blk s1 H1 _ _ fp1) G_timed_out (by decide) (by rfl) (a_cons (s_ix (s_name (pv 0)) s_int (fun _ _ => rfl)) (a_cons (s_ix (s_name (pv 9)) s_int (fun _ _ => rfl)) a_nil))) (a_cons (s_call (B.blk s1 H1 _ _ fp1) G_timed_out (by decide) (by rfl) (a_cons (s_ix (s_name (pv 1)) s_int (fun _ _ => rfl)) (a_cons (s_ix (s_name (pv 9)) s_int (fun _ _ => rfl)) a_nil))) a_nil)))) (fun s1 H1 A1 cl1 fp1 => (s_tup (a_cons (s_name (pv 9)) a_nil))) (by decide)))) x_nil) (x_cons (x_asg (pv_cell s_d0) (t_name (pg_name (i := 4) B.nd rfl (by first | exact .inl rfl | exact .inr rfl)))) (x_cons (x_for B.hp B.cm (i_seq (s_name (pv 3))) (t_name (pg_name (i := 5) B.nd rfl (by first | exact .inl rfl | exact .inr rfl))) (x_one (x_for B.hp B.cm (i_kd (s_fldD B.hK cls_Joint noat_Joint_origins (s_ix (s_name (pv 2)) s_int (fun _ _ => rfl)))) (t_name (pg_name (i := 6) B.nd rfl (by first | exact .inl rfl | exact .inr rfl))) (x_cons (x_asg (pv_frz (s_call B G_combined (by decide) (by rfl) (a_cons (s_name (pv 0)) (a_cons (s_ix (s_name (pv 5)) s_int (fun _ _ => rfl)) (a_cons (s_ix (s_name (pv 6)) s_int (fun _ _ => rfl)) a_nil))))) (t_name (pg_name (i := 7) B.nd rfl (by first | exact .inl rfl | exact .inr rfl)))) (x_one (x_expr (s_setd B (s_name (pv 4)) (s_tup (a_cons (s_name (pv 7)) (a_cons (s_call B G_combined (by decide) (by rfl) (a_cons (s_name (pv 1)) (a_cons (s_ix (s_name (pv 5)) s_int (fun _ _ => rfl)) (a_cons (s_ix (s_name (pv 6)) s_int (fun _ _ => rfl)) a_nil)))) a_nil))) (s_tup (a_cons (s_name (pv 5)) (a_cons (s_name (pv 6)) a_nil)))))))))) (x_one (x_ret (s_name (pv 4))))))))))))
noncomputable def sb_joint_of (sem : Fs) : Sv := (sSeq (sAsg (gNm 2) (mV (mLcE (iZp (aCons (mV (mCall sem_inner (aCons (mV (mN 0)) aNil))) (aCons (mV (mCall sem_inner (aCons (mV (mN 1)) aNil))) aNil))) (gTp 2 (gCons9 (gNm 4) (gCons9 (gNm 5) gNil9))) ttY (mCall sem (aCons (mV (mN 4)) (aCons (mV (mN 5)) aNil))) [4, 5]))) (sSeq (sAsg (gNm 3) (mV (mCall sem_joint_origins (aCons (mV (mN 0)) (aCons (mV (mN 1)) (aCons (mV (mN 2)) aNil)))))) (sSeq (sExp (mCall sem_check_count (aCons (mV (mCal (g1 fLenG) (aCons (mV (mN 3)) aNil))) aNil))) (sRet (mMakeD "Joint" sem_Joint___init__ (aCons (mV (mN 0)) (aCons (mV (mN 3)) (aCons (mV (mN 2)) aNil))))))))
noncomputable def sem_joint_of : Nat → Fs
  | 0 => fun _ _ => .no
  | n + 1 => bodyF 6 2 (sb_joint_of (sem_joint_of n))
theorem kn_joint_of_all (D : Df K mg "joint_of" st_joint_of) (G_Joint___init__ : KnC P w K mg base "Joint" 1 sem_Joint___init__) (G_check_count : Kn P w K mg base "check_count" 1 sem_check_count) (G_inner : Kn P w K mg base "inner" 1 sem_inner) (G_joint_origins : Kn P w K mg base "joint_origins" 4 sem_joint_origins) (m_len : mg "len" = none) (m_zip : mg "zip" = none) : ∀ n, Kn P w K mg base "joint_of" (5 + 1 * n) (sem_joint_of n)
  | 0 => Kn.less (kn_def (k := 4) (N := ["one", "other", "below", "origins", "part", "its"]) (ps := ["one", "other"]) (sb := fun _ _ => .no) D ⟨rfl, rfl, rfl, by decide +kernel, rfl, by decide +kernel, by decide +kernel⟩ (fun _ _ _ _ _ _ us hl => match us, hl with | [_, _], _ => rfl) (fun cdv f A outer s H E B =>
    x_no)) (fun _ _ => .inl rfl)
  | n + 1 => by
    have G_joint_of := kn_joint_of_all D G_Joint___init__ G_check_count G_inner G_joint_origins m_len m_zip n
    exact kn_def (k := 5 + 1 * n + 0) (N := ["one", "other", "below", "origins", "part", "its"]) (ps := ["one", "other"]) (sb := sb_joint_of (sem_joint_of n)) D ⟨rfl, rfl, rfl, by decide +kernel, rfl, by decide +kernel, by decide +kernel⟩ (fun _ _ _ _ _ _ us hl => match us, hl with | [_, _], _ => rfl) (fun cdv f A outer s H E B =>
    (x_cons (x_setLcE (i := 2) (own := [("part", 4), ("its", 5)]) B.cm B.nd rfl rfl rfl (i_zip (by rfl) m_zip (a_cons (s_call B G_inner (by omega) (by rfl) (a_cons (s_name (pv 0)) a_nil)) (a_cons (s_call B G_inner (by omega) (by rfl) (a_cons (s_name (pv 1)) a_nil)) a_nil))) (show BlkOk ["one", "other", "below", "origins", "part", "its"] (defScope st_joint_of) _ _ from ⟨rfl, by decide +kernel, by decide +kernel, by decide +kernel, by decide +kernel⟩) (fun σ1 s1 H1 A1 cl1 fp1 => (t_tup (B.blkE rfl rfl σ1 s1 H1 _ _ _ fp1).cm (t_cons (t_name (pg_name (i := 4) (B.blkE rfl rfl σ1 s1 H1 _ _ _ fp1).nd rfl (by first | exact .inl rfl | exact .inr rfl))) (t_cons (t_name (pg_name (i := 5) (B.blkE rfl rfl σ1 s1 H1 _ _ _ fp1).nd rfl (by first | exact .inl rfl | exact .inr rfl))) t_nil)))) (fun σ1 s1 H1 A1 cl1 fp1 => pts_yes) (fun σ1 s1 H1 A1 cl1 fp1 => (s_call (B.blkE rfl rfl σ1 s1 H1 _ _ _ fp1) G_joint_of (by omega) (by rfl) (a_cons (s_name (pv 4)) (a_cons (s_name (pv 5)) a_nil)))) (by decide) (by intro _; rfl) mV (.inl rfl)) (x_cons (x_asg (pv_frz (s_call B G_joint_origins (by omega) (by rfl) (a_cons (s_name (pv 0)) (a_cons (s_name (pv 1)) (a_cons (s_name (pv 2)) a_nil))))) (t_name (pg_name (i := 3) B.nd rfl (by first | exact .inl rfl | exact .inr rfl)))) (x_cons (x_expr (s_call B G_check_count (by omega) (by rfl) (a_cons (k_lenG B (by rfl) m_len (a_cons (s_name (pv 3)) a_nil)) a_nil))) (x_one (x_ret (s_makeD B G_Joint___init__ (by omega) (by rfl) (a_cons (s_name (pv 0)) (a_cons (s_name (pv 3)) (a_cons (s_name (pv 2)) a_nil))))))))))
theorem kn_joint_of (D : Df K mg "joint_of" st_joint_of) (G_Joint___init__ : KnC P w K mg base "Joint" 1 sem_Joint___init__) (G_check_count : Kn P w K mg base "check_count" 1 sem_check_count) (G_inner : Kn P w K mg base "inner" 1 sem_inner) (G_joint_origins : Kn P w K mg base "joint_origins" 4 sem_joint_origins) (m_len : mg "len" = none) (m_zip : mg "zip" = none) : Kn P w K mg base "joint_of" 17 (sem_joint_of 12) := kn_joint_of_all D G_Joint___init__ G_check_count G_inner G_joint_origins m_len m_zip 12
noncomputable def sb_same_form : Sv := (sRet (bV (mCmp gEq (mCall (sem_without_numbers 25) (aCons (mV (mN 0)) aNil)) (mCall (sem_without_numbers 25) (aCons (mV (mN 1)) aNil)))))
noncomputable def sem_same_form : Fs := bodyF 2 2 sb_same_form
theorem kn_same_form (D : Df K mg "same_form" st_same_form) (G_without_numbers : Kn P w K mg base "without_numbers" 27 (sem_without_numbers 25)) : Kn P w K mg base "same_form" 28 sem_same_form :=
  kn_def (k := 27) (N := ["one", "other"]) (ps := ["one", "other"]) (sb := sb_same_form) D ⟨rfl, rfl, rfl, by decide +kernel, rfl, by decide +kernel, by decide +kernel⟩ (fun _ _ _ _ _ _ us hl => match us, hl with | [_, _], _ => rfl) (fun cdv f A outer s H E B =>
    (x_one (x_ret (v_eq B (s_call B G_without_numbers (by decide) (by rfl) (a_cons (s_name (pv 0)) a_nil)) (s_call B G_without_numbers (by decide) (by rfl) (a_cons (s_name (pv 1)) a_nil))))))
noncomputable def sb_joint_of_policies : Sv := (sSeq (sIf (bNot (mTru (mCall sem_same_form (aCons (mV (mN 0)) (aCons (mV (mN 1)) aNil))))) (sRaise "DifferentForms") sNil) (sRet (mCall (sem_joint_of 12) (aCons (mV (mN 0)) (aCons (mV (mN 1)) aNil)))))
noncomputable def sem_joint_of_policies : Fs := bodyF 2 2 sb_joint_of_policies
theorem kn_joint_of_policies (D : Df K mg "joint_of_policies" st_joint_of_policies) (G_joint_of : Kn P w K mg base "joint_of" 17 (sem_joint_of 12)) (G_same_form : Kn P w K mg base "same_form" 28 sem_same_form) (exc_DifferentForms : PySem.W.excIn K (He.ga K "DifferentForms") He.veBase "ValueError.__new__" = true ∧ PySem.W.keepIn K (.ref (He.ga K "DifferentForms")) = true ∧ PySem.W.subIn K (.ref (He.ga K "DifferentForms")) (.type "BaseException") = some true ∧ PySem.W.typeIn K (.ref (He.ga K "DifferentForms")) = some (.type "type")) (g_DifferentForms : mg "DifferentForms" = some (.ref (He.ga K "DifferentForms"))) : Kn P w K mg base "joint_of_policies" 29 sem_joint_of_policies :=
  kn_def (k := 28) (N := ["one", "other"]) (ps := ["one", "other"]) (sb := sb_joint_of_policies) D ⟨rfl, rfl, rfl, by decide +kernel, rfl, by decide +kernel, by decide +kernel⟩ (fun _ _ _ _ _ _ us hl => match us, hl with | [_, _], _ => rfl) (fun cdv f A outer s H E B =>
    (x_cons (x_if (s_notT (s_test (s_call B G_same_form (by decide) (by rfl) (a_cons (s_name (pv 0)) (a_cons (s_name (pv 1)) a_nil))) (fun _ => rfl))) (x_one (x_raise0 B g_DifferentForms exc_DifferentForms (by rfl))) x_nil) (x_one (x_ret (s_call B G_joint_of (by decide) (by rfl) (a_cons (s_name (pv 0)) (a_cons (s_name (pv 1)) a_nil)))))))
noncomputable def sb_joint_endings : Sv := (sRet (mCal (g1 fTuple) (aCons (mV (mSrtKD sem_pair_key (mFldD "Joint" "origins" (mCall sem_joint_of_policies (aCons (mV (mN 0)) (aCons (mV (mN 1)) aNil)))))) aNil)))
noncomputable def sem_joint_endings : Fs := bodyF 2 2 sb_joint_endings
theorem kn_joint_endings (D : Df K mg "joint_endings" st_joint_endings) (G_joint_of_policies : Kn P w K mg base "joint_of_policies" 29 sem_joint_of_policies) (G_pair_key : Kn P w K mg base "pair_key" 2 sem_pair_key) (m_sorted : mg "sorted" = none) (m_tuple : mg "tuple" = none) (cls_Joint : Cls K (He.ga K "Joint")) (noat_Joint_origins : PySem.W.findIn K (.ref (He.ga K "Joint")) "origins" = some none) : Kn P w K mg base "joint_endings" 30 sem_joint_endings :=
  kn_def (k := 29) (N := ["one", "other"]) (ps := ["one", "other"]) (sb := sb_joint_endings) D ⟨rfl, rfl, rfl, by decide +kernel, rfl, by decide +kernel, by decide +kernel⟩ (fun _ _ _ _ _ _ us hl => match us, hl with | [_, _], _ => rfl) (fun cdv f A outer s H E B =>
    (x_one (x_ret (k_tuple (by rfl) m_tuple (a_cons (s_sortKD B G_pair_key (by decide) (by rfl) (by rfl) m_sorted (s_fldD B.hK cls_Joint noat_Joint_origins (s_call B G_joint_of_policies (by decide) (by rfl) (a_cons (s_name (pv 0)) (a_cons (s_name (pv 1)) a_nil))))) a_nil)))))
noncomputable def sb_law : Sv := (sSeq (sFor (iRg1 (aCons (mV (mCal (gII (fun i j => if j > i then j else i)) (aCons (mV (mK (.int 1))) (aCons (mV (mCal (gII (fun i j => if j < i then j else i)) (aCons (mV (mK (.int 3))) (aCons (mV (mCal (gLen) (aCons (mV (mN 0)) aNil))) aNil)))) aNil)))) aNil)) (gNm 1) (sSeq (sAsg (gNm 2) (mVc (mCall sem__law_urn (aCons (mV (mN 0)) (aCons (mV (mN 1)) aNil))))) (sSeq (sAsg (gNm 3) (mV (mCall sem__law_of (aCons (mVc (mN 2)) (aCons (mV (mLst (aCons (mV (mK (.str ""))) (aCons (mV (mK (.str "call"))) (aCons (mV (mK (.str "x7"))) aNil))))) aNil))))) (sFor (iOf (mCall sem__law_cases (aCons (mV (mBin fAdd (mN 3) (mK (.str "a")))) (aCons (mV (mBin fAdd (mN 3) (mK (.str "b")))) aNil)))) (gTp 3 (gCons9 (gNm 4) (gCons9 (gNm 5) (gCons9 (gNm 6) gNil9)))) (sSeq (sIf (mCmp gNe (mCal (g1 fRepr) (aCons (mV (mCall sem_joint_endings (aCons (mV (mN 4)) (aCons (mV (mN 5)) aNil)))) aNil)) (mCal (g1 fRepr) (aCons (mV (mN 6)) aNil))) (sRet (mK (.bool false))) sNil) (sSeq (sAsg (gNm 7) (mV (mCal (g1 fSorted) (aCons (mV (mLc (iOf (mN 6)) (gNm 8) ttY (mCal (g1 fRepr) (aCons (mV (mTurn (mN 8))) aNil)) [8])) aNil)))) (sIf (mCmp gNe (mCal (g1 fSorted) (aCons (mV (mLc (iOf (mCall sem_joint_endings (aCons (mV (mN 5)) (aCons (mV (mN 4)) aNil)))) (gNm 8) ttY (mCal (g1 fRepr) (aCons (mV (mN 8)) aNil)) [8])) aNil)) (mN 7)) (sRet (mK (.bool false))) sNil))))))) (sRet (mK (.bool true))))
noncomputable def sem_law : Fs := bodyF 9 1 sb_law
theorem fn_law {f : Addr} {fd : FuncData} (FL : FunD K "law" "law" (defArgs st_law) (defBody st_law) (defScope st_law) [] [] f fd) (G__law_cases : Kn P w K mg base "_law_cases" 1 sem__law_cases) (G__law_of : Kn P w K mg base "_law_of" 2 sem__law_of) (G__law_urn : Kn P w K mg base "_law_urn" 1 sem__law_urn) (G_joint_endings : Kn P w K mg base "joint_endings" 30 sem_joint_endings) (m_len : mg "len" = none) (m_max : mg "max" = none) (m_min : mg "min" = none) (m_range : mg "range" = none) (m_repr : mg "repr" = none) (m_sorted : mg "sorted" = none) (sysK : SysK K) : FnC P w K mg base 31 f fd ["_law_script"] sem_law :=
  fn_def (k := 30) (N := ["_law_script", "_law_k", "_law_urn_here", "_law_stem", "_law_one", "_law_other", "_law_due", "_law_turned", "_law_pair"]) (ps := ["_law_script"]) (sb := sb_law) FL ⟨rfl, rfl, rfl, by decide +kernel, rfl, by decide +kernel, by decide +kernel⟩ (fun cdv f A outer s H E B =>
    (x_cons (x_for B.hp B.cm (i_rng1 (by rfl) m_range (a_cons (k_max B (by rfl) m_max (a_cons s_int (a_cons (k_min B (by rfl) m_min (a_cons s_int (a_cons (k_len B (by rfl) m_len (a_cons (s_name (pv 0)) a_nil)) a_nil))) a_nil))) a_nil)) (t_name (pg_name (i := 1) B.nd rfl (by first | exact .inl rfl | exact .inr rfl))) (x_cons (x_asg (pv_cell (s_call B G__law_urn (by decide) (by rfl) (a_cons (s_name (pv 0)) (a_cons (s_name (pv 1)) a_nil)))) (t_name (pg_name (i := 2) B.nd rfl (by first | exact .inl rfl | exact .inr rfl)))) (x_cons (x_asg (pv_frz (s_call B G__law_of (by decide) (by rfl) (a_consC (s_name (pv 2)) (a_cons (s_lst (a_cons s_str (a_cons s_str (a_cons s_str a_nil)))) a_nil)))) (t_name (pg_name (i := 3) B.nd rfl (by first | exact .inl rfl | exact .inr rfl)))) (x_one (x_for B.hp B.cm (i_seq (s_call B G__law_cases (by decide) (by rfl) (a_cons (s_add (s_name (pv 3)) s_str) (a_cons (s_add (s_name (pv 3)) s_str) a_nil)))) (t_tup B.cm (t_cons (t_name (pg_name (i := 4) B.nd rfl (by first | exact .inl rfl | exact .inr rfl))) (t_cons (t_name (pg_name (i := 5) B.nd rfl (by first | exact .inl rfl | exact .inr rfl))) (t_cons (t_name (pg_name (i := 6) B.nd rfl (by first | exact .inl rfl | exact .inr rfl))) t_nil)))) (x_cons (x_if (t_ne B (k_repr B sysK (by rfl) m_repr (a_cons (s_call B G_joint_endings (by decide) (by rfl) (a_cons (s_name (pv 4)) (a_cons (s_name (pv 5)) a_nil))) a_nil)) (k_repr B sysK (by rfl) m_repr (a_cons (s_name (pv 6)) a_nil))) (x_one (x_ret s_bool)) x_nil) (x_cons (x_asg (pv_frz (k_sorted B (by rfl) m_sorted (a_cons (s_lc (own := [("_law_pair", 8)]) B.cm B.nd (i_seq (s_name (pv 6))) (show BlkOk ["_law_script", "_law_k", "_law_urn_here", "_law_stem", "_law_one", "_law_other", "_law_due", "_law_turned", "_law_pair"] (defScope st_law) _ _ from ⟨rfl, by decide +kernel, by decide +kernel, by decide +kernel, by decide +kernel⟩) (fun s1 H1 A1 cl1 fp1 => (t_name (pg_name (i := 8) (B.blk s1 H1 _ _ fp1).nd rfl (by first | exact .inl rfl | exact .inr rfl)))) (fun s1 H1 A1 cl1 fp1 => pts_yes) (fun s1 H1 A1 cl1 fp1 => (k_repr (B.blk s1 H1 _ _ fp1) sysK (by rfl) m_repr (a_cons (s_turn (B.blk s1 H1 _ _ fp1).hK (s_name (pv 8))) a_nil))) (by decide)) a_nil))) (t_name (pg_name (i := 7) B.nd rfl (by first | exact .inl rfl | exact .inr rfl)))) (x_one (x_if (t_ne B (k_sorted B (by rfl) m_sorted (a_cons (s_lc (own := [("_law_pair", 8)]) B.cm B.nd (i_seq (s_call B G_joint_endings (by decide) (by rfl) (a_cons (s_name (pv 5)) (a_cons (s_name (pv 4)) a_nil)))) (show BlkOk ["_law_script", "_law_k", "_law_urn_here", "_law_stem", "_law_one", "_law_other", "_law_due", "_law_turned", "_law_pair"] (defScope st_law) _ _ from ⟨rfl, by decide +kernel, by decide +kernel, by decide +kernel, by decide +kernel⟩) (fun s1 H1 A1 cl1 fp1 => (t_name (pg_name (i := 8) (B.blk s1 H1 _ _ fp1).nd rfl (by first | exact .inl rfl | exact .inr rfl)))) (fun s1 H1 A1 cl1 fp1 => pts_yes) (fun s1 H1 A1 cl1 fp1 => (k_repr (B.blk s1 H1 _ _ fp1) sysK (by rfl) m_repr (a_cons (s_name (pv 8)) a_nil))) (by decide)) a_nil)) (s_name (pv 7))) (x_one (x_ret s_bool)) x_nil))))))))) (x_one (x_ret s_bool))))
end
def d_Joint___init__ : He.DefD := ⟨("Joint", some "__init__"), "__init__", "Joint.__init__", defArgs st_Joint___init__, defBody st_Joint___init__, defScope st_Joint___init__, [], []⟩
def d_inner : He.DefD := ⟨("inner", none), "inner", "inner", defArgs st_inner, defBody st_inner, defScope st_inner, [], []⟩
def d_with_inner : He.DefD := ⟨("with_inner", none), "with_inner", "with_inner", defArgs st_with_inner, defBody st_with_inner, defScope st_with_inner, [], []⟩
def d_without_numbers : He.DefD := ⟨("without_numbers", none), "without_numbers", "without_numbers", defArgs st_without_numbers, defBody st_without_numbers, defScope st_without_numbers, [], []⟩
def d_same_form : He.DefD := ⟨("same_form", none), "same_form", "same_form", defArgs st_same_form, defBody st_same_form, defScope st_same_form, [], []⟩
def d_later : He.DefD := ⟨("later", none), "later", "later", defArgs st_later, defBody st_later, defScope st_later, [], []⟩
def d_is_ok : He.DefD := ⟨("is_ok", none), "is_ok", "is_ok", defArgs st_is_ok, defBody st_is_ok, defScope st_is_ok, [], []⟩
def d_is_failure : He.DefD := ⟨("is_failure", none), "is_failure", "is_failure", defArgs st_is_failure, defBody st_is_failure, defScope st_is_failure, [], []⟩
def d_timed_out : He.DefD := ⟨("timed_out", none), "timed_out", "timed_out", defArgs st_timed_out, defBody st_timed_out, defScope st_timed_out, [], []⟩
def d_raced : He.DefD := ⟨("raced", none), "raced", "raced", defArgs st_raced, defBody st_raced, defScope st_raced, [], []⟩
def d_hedged : He.DefD := ⟨("hedged", none), "hedged", "hedged", defArgs st_hedged, defBody st_hedged, defScope st_hedged, [], []⟩
def d_both_ended : He.DefD := ⟨("both_ended", none), "both_ended", "both_ended", defArgs st_both_ended, defBody st_both_ended, defScope st_both_ended, [], []⟩
def d_combined : He.DefD := ⟨("combined", none), "combined", "combined", defArgs st_combined, defBody st_combined, defScope st_combined, [], []⟩
def d_ending_key : He.DefD := ⟨("ending_key", none), "ending_key", "ending_key", defArgs st_ending_key, defBody st_ending_key, defScope st_ending_key, [], []⟩
def d_pair_key : He.DefD := ⟨("pair_key", none), "pair_key", "pair_key", defArgs st_pair_key, defBody st_pair_key, defScope st_pair_key, [], []⟩
def d_check_count : He.DefD := ⟨("check_count", none), "check_count", "check_count", defArgs st_check_count, defBody st_check_count, defScope st_check_count, [], []⟩
def d_responses_of : He.DefD := ⟨("responses_of", none), "responses_of", "responses_of", defArgs st_responses_of, defBody st_responses_of, defScope st_responses_of, [], []⟩
def d_after_attempt : He.DefD := ⟨("after_attempt", none), "after_attempt", "after_attempt", defArgs st_after_attempt, defBody st_after_attempt, defScope st_after_attempt, [], []⟩
def d_joint_attempts : He.DefD := ⟨("joint_attempts", none), "joint_attempts", "joint_attempts", defArgs st_joint_attempts, defBody st_joint_attempts, defScope st_joint_attempts, [], []⟩
def d_joint_origins : He.DefD := ⟨("joint_origins", none), "joint_origins", "joint_origins", defArgs st_joint_origins, defBody st_joint_origins, defScope st_joint_origins, [], []⟩
def d_joint_of : He.DefD := ⟨("joint_of", none), "joint_of", "joint_of", defArgs st_joint_of, defBody st_joint_of, defScope st_joint_of, [], []⟩
def d_joint_of_policies : He.DefD := ⟨("joint_of_policies", none), "joint_of_policies", "joint_of_policies", defArgs st_joint_of_policies, defBody st_joint_of_policies, defScope st_joint_of_policies, [], []⟩
def d_joint_endings : He.DefD := ⟨("joint_endings", none), "joint_endings", "joint_endings", defArgs st_joint_endings, defBody st_joint_endings, defScope st_joint_endings, [], []⟩
def d__law_urn : He.DefD := ⟨("_law_urn", none), "_law_urn", "_law_urn", defArgs st__law_urn, defBody st__law_urn, defScope st__law_urn, [], []⟩
def d__law_next : He.DefD := ⟨("_law_next", none), "_law_next", "_law_next", defArgs st__law_next, defBody st__law_next, defScope st__law_next, [], []⟩
def d__law_of : He.DefD := ⟨("_law_of", none), "_law_of", "_law_of", defArgs st__law_of, defBody st__law_of, defScope st__law_of, [], []⟩
def d__law_cases : He.DefD := ⟨("_law_cases", none), "_law_cases", "_law_cases", defArgs st__law_cases, defBody st__law_cases, defScope st__law_cases, [], []⟩
def d_law : He.DefD := ⟨("law", none), "law", "law", defArgs st_law, defBody st_law, defScope st_law, [], []⟩
def fn : List He.DefD := [d_inner, d_with_inner, d_without_numbers, d_same_form, d_later, d_is_ok, d_is_failure, d_timed_out, d_raced, d_hedged, d_both_ended, d_combined, d_ending_key, d_pair_key, d_check_count, d_responses_of, d_after_attempt, d_joint_attempts, d_joint_origins, d_joint_of, d_joint_of_policies, d_joint_endings, d__law_urn, d__law_next, d__law_of, d__law_cases, d_law, d_Joint___init__]
def fa : List Fb := [(fun K => (He.Fa.glo "inner").ok K),
  (fun K => (He.Fa.glo "with_inner").ok K),
  (fun K => (He.Fa.glo "without_numbers").ok K),
  (fun K => (He.Fa.glo "same_form").ok K),
  (fun K => (He.Fa.glo "later").ok K),
  (fun K => (He.Fa.glo "is_ok").ok K),
  (fun K => (He.Fa.glo "is_failure").ok K),
  (fun K => (He.Fa.glo "timed_out").ok K),
  (fun K => (He.Fa.glo "raced").ok K),
  (fun K => (He.Fa.glo "hedged").ok K),
  (fun K => (He.Fa.glo "both_ended").ok K),
  (fun K => (He.Fa.glo "combined").ok K),
  (fun K => (He.Fa.glo "ending_key").ok K),
  (fun K => (He.Fa.glo "pair_key").ok K),
  (fun K => (He.Fa.glo "check_count").ok K),
  (fun K => (He.Fa.glo "responses_of").ok K),
  (fun K => (He.Fa.glo "after_attempt").ok K),
  (fun K => (He.Fa.glo "joint_attempts").ok K),
  (fun K => (He.Fa.glo "joint_origins").ok K),
  (fun K => (He.Fa.glo "joint_of").ok K),
  (fun K => (He.Fa.glo "joint_of_policies").ok K),
  (fun K => (He.Fa.glo "joint_endings").ok K),
  (fun K => (He.Fa.glo "_law_urn").ok K),
  (fun K => (He.Fa.glo "_law_next").ok K),
  (fun K => (He.Fa.glo "_law_of").ok K),
  (fun K => (He.Fa.glo "_law_cases").ok K),
  (fun K => (He.Fa.glo "law").ok K),
  (fun K => (He.Fa.free "abs").ok K),
  (fun K => (He.Fa.free "int").ok K),
  (fun K => (He.Fa.free "len").ok K),
  (fun K => (He.Fa.free "list").ok K),
  (fun K => (He.Fa.free "max").ok K),
  (fun K => (He.Fa.free "min").ok K),
  (fun K => (He.Fa.free "range").ok K),
  (fun K => (He.Fa.free "repr").ok K),
  (fun K => (He.Fa.free "sorted").ok K),
  (fun K => (He.Fa.free "sum").ok K),
  (fun K => (He.Fa.free "tuple").ok K),
  (fun K => (He.Fa.free "zip").ok K),
  (fun K => (He.Fa.str "BOTH" "both").ok K),
  (fun K => (He.Fa.str "CALL" "call").ok K),
  (fun K => (He.Fa.str "FAIL" "fail").ok K),
  (fun K => (He.Fa.int "MOST_ENDINGS" 200).ok K),
  (fun K => (He.Fa.str "OK" "ok").ok K),
  (fun K => (He.Fa.str "RETRY" "retry").ok K),
  (fun K => (He.Fa.str "THEN" "then").ok K),
  (fun K => (He.Fa.str "TIMEOUT" "timeout").ok K),
  (fun K => (He.Fa.str "WAIT" "wait").ok K),
  (fun K => (He.Fa.cls "Joint").ok K),
  (fun K => (He.Fa.exc "DifferentForms").ok K),
  (fun K => (He.Fa.exc "TooManyEndings").ok K),
  (fun K => (He.Fa.glo "DifferentForms").ok K),
  (fun K => (He.Fa.glo "Joint").ok K),
  (fun K => (He.Fa.glo "TooManyEndings").ok K),
  (fun K => (He.Fa.mkr "Joint").ok K),
  (fun K => (He.Fa.noat "Joint" "below").ok K),
  (fun K => (He.Fa.noat "Joint" "origins").ok K),
  (fun K => (He.Fa.noat "Joint" "part").ok K),
  sysB,
  (tupB "NUMBERED" ["wait", "retry", "fallback", "timeout", "race", "hedge"])]
abbrev R : PySem.W.OpenRow := PySem.W.OpenLaw.row PySem.Challenge.rw_callpolicy_k38_joint_endings_by_hand
def ts : List He.Tab := []
abbrev hk : PySem.W.Hook := hookXT 4 fa fn ts
def ob (s : PySem.W.SharedT) : AlX := obsXTG 4 fa fn ts (HandSHeadRun.getT s)
theorem ob_eq (s : PySem.W.SharedT) : ob s = hk.obs s.abs := obsXTG_eq (HandSHeadRun.getT_eq s)
def loose : List Str := "PolicyError" :: "DifferentForms" :: "TooManyEndings" :: "CALL" :: "WAIT" :: "THEN" :: "FALLBACK" :: "RETRY" :: "TIMEOUT" :: "RACE" :: "HEDGE" :: "BOTH" :: "NUMBERED" :: "inner" :: "with_inner" :: "without_numbers" :: "same_form" :: "OK" :: "FAIL" :: "later" :: "is_ok" :: "is_failure" :: "timed_out" :: "raced" :: "hedged" :: "both_ended" :: "combined" :: "MOST_ENDINGS" :: "ending_key" :: "pair_key" :: "Joint" :: "check_count" :: "responses_of" :: "after_attempt" :: "joint_attempts" :: "joint_origins" :: "joint_of" :: "joint_of_policies" :: "joint_endings" :: "_law_urn" :: "_law_next" :: "_law_of" :: "_law_cases" :: ([] : List Str)
theorem run (w : World) : HandSHeadRun.RunEq R (PySem.W.view R.prog [48]) hk ob 4000 loose w := by
  intro os
  kernel_rfl
theorem facts {P : Program} {w : World} {K : PySem.W.Frag} {h : Heap} {mg : Str → Option Value} {f : Addr} (X : K.In h) (G : h.Ns mainGlobals mg) (hfa : mg ("law" : Str) = some (.ref f)) (cT : SaysXT fa fn ts w K) :
    ∃ fd : FuncData, (∀ (s : Shared) (v : Value), BindsTo s fd ⟨[v], []⟩ [("_law_script", v)]) ∧ ∀ base : Heap, K.In base → base.Ns mainGlobals mg → FnC P w K mg base 31 f fd ["_law_script"] sem_law := by
  have c := cT.x
  have m_abs : mg "abs" = none := He.free_ok X G (c.fact 27 (f := fun K => (He.Fa.free "abs").ok K) rfl)
  have m_int : mg "int" = none := He.free_ok X G (c.fact 28 (f := fun K => (He.Fa.free "int").ok K) rfl)
  have m_len : mg "len" = none := He.free_ok X G (c.fact 29 (f := fun K => (He.Fa.free "len").ok K) rfl)
  have m_list : mg "list" = none := He.free_ok X G (c.fact 30 (f := fun K => (He.Fa.free "list").ok K) rfl)
  have m_max : mg "max" = none := He.free_ok X G (c.fact 31 (f := fun K => (He.Fa.free "max").ok K) rfl)
  have m_min : mg "min" = none := He.free_ok X G (c.fact 32 (f := fun K => (He.Fa.free "min").ok K) rfl)
  have m_range : mg "range" = none := He.free_ok X G (c.fact 33 (f := fun K => (He.Fa.free "range").ok K) rfl)
  have m_repr : mg "repr" = none := He.free_ok X G (c.fact 34 (f := fun K => (He.Fa.free "repr").ok K) rfl)
  have m_sorted : mg "sorted" = none := He.free_ok X G (c.fact 35 (f := fun K => (He.Fa.free "sorted").ok K) rfl)
  have m_sum : mg "sum" = none := He.free_ok X G (c.fact 36 (f := fun K => (He.Fa.free "sum").ok K) rfl)
  have m_tuple : mg "tuple" = none := He.free_ok X G (c.fact 37 (f := fun K => (He.Fa.free "tuple").ok K) rfl)
  have m_zip : mg "zip" = none := He.free_ok X G (c.fact 38 (f := fun K => (He.Fa.free "zip").ok K) rfl)
  have c_BOTH := He.str_ok X G (c.fact 39 (f := fun K => (He.Fa.str "BOTH" "both").ok K) rfl)
  have c_CALL := He.str_ok X G (c.fact 40 (f := fun K => (He.Fa.str "CALL" "call").ok K) rfl)
  have c_FAIL := He.str_ok X G (c.fact 41 (f := fun K => (He.Fa.str "FAIL" "fail").ok K) rfl)
  have c_MOST_ENDINGS := He.int_ok X G (c.fact 42 (f := fun K => (He.Fa.int "MOST_ENDINGS" 200).ok K) rfl)
  have c_OK := He.str_ok X G (c.fact 43 (f := fun K => (He.Fa.str "OK" "ok").ok K) rfl)
  have c_RETRY := He.str_ok X G (c.fact 44 (f := fun K => (He.Fa.str "RETRY" "retry").ok K) rfl)
  have c_THEN := He.str_ok X G (c.fact 45 (f := fun K => (He.Fa.str "THEN" "then").ok K) rfl)
  have c_TIMEOUT := He.str_ok X G (c.fact 46 (f := fun K => (He.Fa.str "TIMEOUT" "timeout").ok K) rfl)
  have c_WAIT := He.str_ok X G (c.fact 47 (f := fun K => (He.Fa.str "WAIT" "wait").ok K) rfl)
  have cls_Joint : Cls K (He.ga K "Joint") := He.cls_ok (c.fact 48 (f := (fun K => (He.Fa.cls "Joint").ok K)) rfl)
  have exc_DifferentForms : PySem.W.excIn K (He.ga K "DifferentForms") He.veBase "ValueError.__new__" = true ∧ PySem.W.keepIn K (.ref (He.ga K "DifferentForms")) = true ∧ PySem.W.subIn K (.ref (He.ga K "DifferentForms")) (.type "BaseException") = some true ∧ PySem.W.typeIn K (.ref (He.ga K "DifferentForms")) = some (.type "type") := He.exc_ok (c.fact 49 (f := (fun K => (He.Fa.exc "DifferentForms").ok K)) rfl)
  have exc_TooManyEndings : PySem.W.excIn K (He.ga K "TooManyEndings") He.veBase "ValueError.__new__" = true ∧ PySem.W.keepIn K (.ref (He.ga K "TooManyEndings")) = true ∧ PySem.W.subIn K (.ref (He.ga K "TooManyEndings")) (.type "BaseException") = some true ∧ PySem.W.typeIn K (.ref (He.ga K "TooManyEndings")) = some (.type "type") := He.exc_ok (c.fact 50 (f := (fun K => (He.Fa.exc "TooManyEndings").ok K)) rfl)
  have g_DifferentForms : mg "DifferentForms" = some (.ref (He.ga K "DifferentForms")) := He.glo_ok X G (c.fact 51 (f := (fun K => (He.Fa.glo "DifferentForms").ok K)) rfl)
  have g_Joint : mg "Joint" = some (.ref (He.ga K "Joint")) := He.glo_ok X G (c.fact 52 (f := (fun K => (He.Fa.glo "Joint").ok K)) rfl)
  have g_TooManyEndings : mg "TooManyEndings" = some (.ref (He.ga K "TooManyEndings")) := He.glo_ok X G (c.fact 53 (f := (fun K => (He.Fa.glo "TooManyEndings").ok K)) rfl)
  have mkr_Joint : Mk K (He.ga K "Joint") (He.ma K (He.ga K "Joint") "__init__") := He.mkr_ok (c.fact 54 (f := (fun K => (He.Fa.mkr "Joint").ok K)) rfl)
  have noat_Joint_below : PySem.W.findIn K (.ref (He.ga K "Joint")) "below" = some none := He.noat_ok (c.fact 55 (f := (fun K => (He.Fa.noat "Joint" "below").ok K)) rfl)
  have noat_Joint_origins : PySem.W.findIn K (.ref (He.ga K "Joint")) "origins" = some none := He.noat_ok (c.fact 56 (f := (fun K => (He.Fa.noat "Joint" "origins").ok K)) rfl)
  have noat_Joint_part : PySem.W.findIn K (.ref (He.ga K "Joint")) "part" = some none := He.noat_ok (c.fact 57 (f := (fun K => (He.Fa.noat "Joint" "part").ok K)) rfl)
  have sysK : SysK K := sysB_ok (c.fact 58 (f := sysB) rfl)
  have tup_NUMBERED : TupC K mg "NUMBERED" ["wait", "retry", "fallback", "timeout", "race", "hedge"] := tupB_ok X G (c.fact 59 (f := (tupB "NUMBERED" ["wait", "retry", "fallback", "timeout", "race", "hedge"])) rfl)
  have D_inner : Df K mg "inner" st_inner := by obtain ⟨fd, F⟩ := c.def_ 0 (d := d_inner) rfl; exact ⟨_, fd, F, He.glo_ok X G (c.fact 0 (f := fun K => (He.Fa.glo "inner").ok K) rfl)⟩
  have D_with_inner : Df K mg "with_inner" st_with_inner := by obtain ⟨fd, F⟩ := c.def_ 1 (d := d_with_inner) rfl; exact ⟨_, fd, F, He.glo_ok X G (c.fact 1 (f := fun K => (He.Fa.glo "with_inner").ok K) rfl)⟩
  have D_without_numbers : Df K mg "without_numbers" st_without_numbers := by obtain ⟨fd, F⟩ := c.def_ 2 (d := d_without_numbers) rfl; exact ⟨_, fd, F, He.glo_ok X G (c.fact 2 (f := fun K => (He.Fa.glo "without_numbers").ok K) rfl)⟩
  have D_same_form : Df K mg "same_form" st_same_form := by obtain ⟨fd, F⟩ := c.def_ 3 (d := d_same_form) rfl; exact ⟨_, fd, F, He.glo_ok X G (c.fact 3 (f := fun K => (He.Fa.glo "same_form").ok K) rfl)⟩
  have D_later : Df K mg "later" st_later := by obtain ⟨fd, F⟩ := c.def_ 4 (d := d_later) rfl; exact ⟨_, fd, F, He.glo_ok X G (c.fact 4 (f := fun K => (He.Fa.glo "later").ok K) rfl)⟩
  have D_is_ok : Df K mg "is_ok" st_is_ok := by obtain ⟨fd, F⟩ := c.def_ 5 (d := d_is_ok) rfl; exact ⟨_, fd, F, He.glo_ok X G (c.fact 5 (f := fun K => (He.Fa.glo "is_ok").ok K) rfl)⟩
  have D_is_failure : Df K mg "is_failure" st_is_failure := by obtain ⟨fd, F⟩ := c.def_ 6 (d := d_is_failure) rfl; exact ⟨_, fd, F, He.glo_ok X G (c.fact 6 (f := fun K => (He.Fa.glo "is_failure").ok K) rfl)⟩
  have D_timed_out : Df K mg "timed_out" st_timed_out := by obtain ⟨fd, F⟩ := c.def_ 7 (d := d_timed_out) rfl; exact ⟨_, fd, F, He.glo_ok X G (c.fact 7 (f := fun K => (He.Fa.glo "timed_out").ok K) rfl)⟩
  have D_raced : Df K mg "raced" st_raced := by obtain ⟨fd, F⟩ := c.def_ 8 (d := d_raced) rfl; exact ⟨_, fd, F, He.glo_ok X G (c.fact 8 (f := fun K => (He.Fa.glo "raced").ok K) rfl)⟩
  have D_hedged : Df K mg "hedged" st_hedged := by obtain ⟨fd, F⟩ := c.def_ 9 (d := d_hedged) rfl; exact ⟨_, fd, F, He.glo_ok X G (c.fact 9 (f := fun K => (He.Fa.glo "hedged").ok K) rfl)⟩
  have D_both_ended : Df K mg "both_ended" st_both_ended := by obtain ⟨fd, F⟩ := c.def_ 10 (d := d_both_ended) rfl; exact ⟨_, fd, F, He.glo_ok X G (c.fact 10 (f := fun K => (He.Fa.glo "both_ended").ok K) rfl)⟩
  have D_combined : Df K mg "combined" st_combined := by obtain ⟨fd, F⟩ := c.def_ 11 (d := d_combined) rfl; exact ⟨_, fd, F, He.glo_ok X G (c.fact 11 (f := fun K => (He.Fa.glo "combined").ok K) rfl)⟩
  have D_ending_key : Df K mg "ending_key" st_ending_key := by obtain ⟨fd, F⟩ := c.def_ 12 (d := d_ending_key) rfl; exact ⟨_, fd, F, He.glo_ok X G (c.fact 12 (f := fun K => (He.Fa.glo "ending_key").ok K) rfl)⟩
  have D_pair_key : Df K mg "pair_key" st_pair_key := by obtain ⟨fd, F⟩ := c.def_ 13 (d := d_pair_key) rfl; exact ⟨_, fd, F, He.glo_ok X G (c.fact 13 (f := fun K => (He.Fa.glo "pair_key").ok K) rfl)⟩
  have D_check_count : Df K mg "check_count" st_check_count := by obtain ⟨fd, F⟩ := c.def_ 14 (d := d_check_count) rfl; exact ⟨_, fd, F, He.glo_ok X G (c.fact 14 (f := fun K => (He.Fa.glo "check_count").ok K) rfl)⟩
  have D_responses_of : Df K mg "responses_of" st_responses_of := by obtain ⟨fd, F⟩ := c.def_ 15 (d := d_responses_of) rfl; exact ⟨_, fd, F, He.glo_ok X G (c.fact 15 (f := fun K => (He.Fa.glo "responses_of").ok K) rfl)⟩
  have D_after_attempt : Df K mg "after_attempt" st_after_attempt := by obtain ⟨fd, F⟩ := c.def_ 16 (d := d_after_attempt) rfl; exact ⟨_, fd, F, He.glo_ok X G (c.fact 16 (f := fun K => (He.Fa.glo "after_attempt").ok K) rfl)⟩
  have D_joint_attempts : Df K mg "joint_attempts" st_joint_attempts := by obtain ⟨fd, F⟩ := c.def_ 17 (d := d_joint_attempts) rfl; exact ⟨_, fd, F, He.glo_ok X G (c.fact 17 (f := fun K => (He.Fa.glo "joint_attempts").ok K) rfl)⟩
  have D_joint_origins : Df K mg "joint_origins" st_joint_origins := by obtain ⟨fd, F⟩ := c.def_ 18 (d := d_joint_origins) rfl; exact ⟨_, fd, F, He.glo_ok X G (c.fact 18 (f := fun K => (He.Fa.glo "joint_origins").ok K) rfl)⟩
  have D_joint_of : Df K mg "joint_of" st_joint_of := by obtain ⟨fd, F⟩ := c.def_ 19 (d := d_joint_of) rfl; exact ⟨_, fd, F, He.glo_ok X G (c.fact 19 (f := fun K => (He.Fa.glo "joint_of").ok K) rfl)⟩
  have D_joint_of_policies : Df K mg "joint_of_policies" st_joint_of_policies := by obtain ⟨fd, F⟩ := c.def_ 20 (d := d_joint_of_policies) rfl; exact ⟨_, fd, F, He.glo_ok X G (c.fact 20 (f := fun K => (He.Fa.glo "joint_of_policies").ok K) rfl)⟩
  have D_joint_endings : Df K mg "joint_endings" st_joint_endings := by obtain ⟨fd, F⟩ := c.def_ 21 (d := d_joint_endings) rfl; exact ⟨_, fd, F, He.glo_ok X G (c.fact 21 (f := fun K => (He.Fa.glo "joint_endings").ok K) rfl)⟩
  have D__law_urn : Df K mg "_law_urn" st__law_urn := by obtain ⟨fd, F⟩ := c.def_ 22 (d := d__law_urn) rfl; exact ⟨_, fd, F, He.glo_ok X G (c.fact 22 (f := fun K => (He.Fa.glo "_law_urn").ok K) rfl)⟩
  have D__law_next : Df K mg "_law_next" st__law_next := by obtain ⟨fd, F⟩ := c.def_ 23 (d := d__law_next) rfl; exact ⟨_, fd, F, He.glo_ok X G (c.fact 23 (f := fun K => (He.Fa.glo "_law_next").ok K) rfl)⟩
  have D__law_of : Df K mg "_law_of" st__law_of := by obtain ⟨fd, F⟩ := c.def_ 24 (d := d__law_of) rfl; exact ⟨_, fd, F, He.glo_ok X G (c.fact 24 (f := fun K => (He.Fa.glo "_law_of").ok K) rfl)⟩
  have D__law_cases : Df K mg "_law_cases" st__law_cases := by obtain ⟨fd, F⟩ := c.def_ 25 (d := d__law_cases) rfl; exact ⟨_, fd, F, He.glo_ok X G (c.fact 25 (f := fun K => (He.Fa.glo "_law_cases").ok K) rfl)⟩
  have D_Joint___init__ : DfI K mg "Joint" "Joint.__init__" st_Joint___init__ := by obtain ⟨fd, F⟩ := c.def_ 27 (d := d_Joint___init__) rfl; exact ⟨g_Joint, fd, F, mkr_Joint⟩
  obtain ⟨fdL, FL⟩ := c.def_ 26 (d := d_law) rfl
  have e := hfa.symm.trans (He.glo_ok X G (c.fact 26 (f := fun K => (He.Fa.glo "law").ok K) rfl))
  cases e
  refine ⟨fdL, fun s v => FunD.bindsA (ps := ["_law_script"]) FL (fun _ _ _ _ _ _ us hl => match us, hl with | [_], _ => rfl) s [v] rfl, fun base _ _ => ?_⟩
  have G_inner := kn_inner (P := P) (w := w) (mg := mg) (base := base) D_inner c_BOTH c_CALL c_THEN c_WAIT
  have G_with_inner := kn_with_inner (P := P) (w := w) (mg := mg) (base := base) D_with_inner m_len m_tuple
  have G_later := kn_later (P := P) (w := w) (mg := mg) (base := base) D_later
  have G_is_ok := kn_is_ok (P := P) (w := w) (mg := mg) (base := base) D_is_ok c_OK
  have G_is_failure := kn_is_failure (P := P) (w := w) (mg := mg) (base := base) D_is_failure c_FAIL
  have G_timed_out := kn_timed_out (P := P) (w := w) (mg := mg) (base := base) D_timed_out c_FAIL
  have G_ending_key := kn_ending_key (P := P) (w := w) (mg := mg) (base := base) D_ending_key m_int c_OK
  have G_Joint___init__ := kn_Joint___init__ (P := P) (w := w) (mg := mg) (base := base) D_Joint___init__ cls_Joint noat_Joint_below noat_Joint_origins noat_Joint_part
  have G_check_count := kn_check_count (P := P) (w := w) (mg := mg) (base := base) D_check_count c_MOST_ENDINGS exc_TooManyEndings g_TooManyEndings
  have G__law_urn := kn__law_urn (P := P) (w := w) (mg := mg) (base := base) D__law_urn m_abs m_int m_len
  have G__law_next := kn__law_next (P := P) (w := w) (mg := mg) (base := base) D__law_next
  have G__law_cases := kn__law_cases (P := P) (w := w) (mg := mg) (base := base) D__law_cases m_tuple
  have G_raced := kn_raced (P := P) (w := w) (mg := mg) (base := base) D_raced G_later
  have G_hedged := kn_hedged (P := P) (w := w) (mg := mg) (base := base) D_hedged G_is_failure G_is_ok G_later m_max m_min c_OK
  have G_both_ended := kn_both_ended (P := P) (w := w) (mg := mg) (base := base) D_both_ended G_is_failure m_max m_min c_FAIL
  have G_pair_key := kn_pair_key (P := P) (w := w) (mg := mg) (base := base) D_pair_key G_ending_key
  have G_responses_of := kn_responses_of (P := P) (w := w) (mg := mg) (base := base) D_responses_of G_check_count m_int m_range m_sum c_FAIL c_OK
  have G_after_attempt := kn_after_attempt (P := P) (w := w) (mg := mg) (base := base) D_after_attempt G_is_failure G_later m_len
  have G__law_of := kn__law_of (P := P) (w := w) (mg := mg) (base := base) D__law_of G__law_next m_len
  have G_combined := kn_combined (P := P) (w := w) (mg := mg) (base := base) D_combined G_both_ended G_hedged G_is_failure G_is_ok G_later G_raced
  have G_joint_attempts := kn_joint_attempts (P := P) (w := w) (mg := mg) (base := base) D_joint_attempts G_after_attempt G_check_count m_len m_max m_range
  have G_joint_origins := kn_joint_origins (P := P) (w := w) (mg := mg) (base := base) D_joint_origins G_combined G_joint_attempts G_responses_of G_timed_out m_list c_CALL c_OK c_RETRY c_TIMEOUT c_WAIT cls_Joint noat_Joint_origins
  have G_joint_of := kn_joint_of (P := P) (w := w) (mg := mg) (base := base) D_joint_of G_Joint___init__ G_check_count G_inner G_joint_origins m_len m_zip
  have G_without_numbers := kn_without_numbers (P := P) (w := w) (mg := mg) (base := base) D_without_numbers G_inner G_with_inner tup_NUMBERED
  have G_same_form := kn_same_form (P := P) (w := w) (mg := mg) (base := base) D_same_form G_without_numbers
  have G_joint_of_policies := kn_joint_of_policies (P := P) (w := w) (mg := mg) (base := base) D_joint_of_policies G_joint_of G_same_form exc_DifferentForms g_DifferentForms
  have G_joint_endings := kn_joint_endings (P := P) (w := w) (mg := mg) (base := base) D_joint_endings G_joint_of_policies G_pair_key m_sorted m_tuple cls_Joint noat_Joint_origins
  have G_law := fn_law (P := P) (w := w) (mg := mg) (base := base) FL G__law_cases G__law_of G__law_urn G_joint_endings m_len m_max m_min m_range m_repr m_sorted sysK
  exact G_law
end K38
open PySem PySem.W PySem.Calls PyProof.Rows in
theorem K38.holds_of (hsem : ∀ ns : List Int, ns.length ≤ 63 → ∃ st, K38.sem_law [.s ns] [Cp.heapC []] = .ok (.d (.bool true)) st) : PySem.Challenge.rw_callpolicy_k38_joint_endings_by_hand.Holds := by
  w_on; o_law
  refine HandSHeadRun.head_any (r := OpenLaw.row PySem.Challenge.rw_callpolicy_k38_joint_endings_by_hand) (q := view (OpenLaw.row PySem.Challenge.rw_callpolicy_k38_joint_endings_by_hand).prog [48]) (H := K38.hk) (ob := K38.ob) (M := 4000) (loose := K38.loose) (d := HandSHeadRun.topDef (OpenLaw.row PySem.Challenge.rw_callpolicy_k38_joint_endings_by_hand).prog 48) (kwd := []) K38.ob_eq
    (by kernel_rfl) (fun s => by kernel_rfl) K38.run (by kernel_rfl) (by kernel_rfl) (by kernel_rfl) (by rfl) (by first | assumption | decide +kernel) (by decide +kernel) ⟨rfl, rfl, rfl, rfl, rfl, by decide +kernel⟩ ?hw ?hc
  case hw => w_witness2
  case hc =>
    refine Cp.law_walkE (l := PySem.Challenge.rw_callpolicy_k38_joint_endings_by_hand) (n := 63) (k := 31) (x := "_law_script") (sem := K38.sem_law) rfl (by decide) (by kernel_rfl) (Cp.law_room (by decide)) ?F hsem
    intro w mg fa h Y G hmg0
    obtain ⟨K, KX, c⟩ := Y
    have hmg : mg ("law" : PySem.Str) = some (.ref fa) := by
      have e : (HandSHeadRun.topDef (OpenLaw.row PySem.Challenge.rw_callpolicy_k38_joint_endings_by_hand).prog 48).name = ("law" : PySem.Str) := by kernel_rfl
      rw [← e]
      exact hmg0
    obtain ⟨fd, hb, hF⟩ := K38.facts (P := (PySem.Challenge.rw_callpolicy_k38_joint_endings_by_hand).prog) (w := w) KX G hmg c
    exact ⟨K, fd, KX, hb, hF⟩
namespace K38
open PySem L2 Cp Cp.Jt
theorem eU : sem__law_urn = semU_urn := rfl
theorem eO : sem__law_of = semU_of := rfl
theorem eJo : ∀ n, sem_joint_of n = semJ_joint_of n
  | 0 => rfl
  | n + 1 => by show bodyF 6 2 (sb_joint_of (sem_joint_of n)) = bodyF 6 2 (sbJ_joint_of (semJ_joint_of n)); rw [eJo n]; rfl
theorem eWn : ∀ n, sem_without_numbers n = semS_without_numbers n
  | 0 => rfl
  | n + 1 => by show bodyF 4 1 (sb_without_numbers (sem_without_numbers n)) = bodyF 4 1 (sbS_without_numbers (semS_without_numbers n)); rw [eWn n]; rfl
theorem eSf : sem_same_form = semS_same_form := by unfold sem_same_form sb_same_form; rw [eWn]; rfl
theorem eJp : sem_joint_of_policies = semJ_joint_of_policies := by unfold sem_joint_of_policies sb_joint_of_policies; rw [eJo, eSf]; rfl
theorem eJe : sem_joint_endings = semJ_joint_endings := by unfold sem_joint_endings sb_joint_endings; rw [eJp]; rfl
abbrev Cs := Pol × Pol × List Np
def csD (c : Cs) : PyData := .tuple [c.1.pd, c.2.1.pd, ogV c.2.2]
def tbl (a b : Str) : List Cs :=
  let good := Pol.call a (some (2, 2)) none false
  let bad := Pol.call a none (some (2, 2)) false
  let both := Pol.call a (some (1, 1)) (some (3, 3)) false
  let late := Pol.call b (some (1, 1)) none true
  let quick := Pol.call b (some (0, 0)) none false
  let never := Pol.call a none none true
  let far := Pol.call a (some (1000000000, 1000000000)) none true
  let ok (x : Int) : Nd := some (x, true)
  let no (x : Int) : Nd := some (x, false)
  [(.wait 3, .wait 0, [(ok 3, ok 0)]),
   (.tmo (some 2) good, .tmo (some 1) good, [(ok 2, no 1)]),
   (.tmo none bad, .tmo (some 1) bad, [(no 2, no 1)]),
   (.tmo (some 0) never, .tmo none never, [(no 0, none)]),
   (.num .race (some 2) good quick, .num .race (some 1) good quick, [(ok 2, ok 1)]),
   (.num .race (some 1) bad late, .num .race (some 0) bad late, [(no 2, ok 1), (no 2, no 2)]),
   (.num .hedge (some 1) bad late, .num .hedge (some 5) bad late, [(ok 2, ok 3), (none, none)]),
   (.num .hedge (some 1) never late, .num .hedge none never late, [(ok 2, none), (none, none)]),
   (.num .fall (some 4) bad quick, .num .fall none bad quick, [(ok 6, no 2)]),
   (.num .fall (some 0) good quick, .num .fall (some 9) good quick, [(ok 2, ok 2)]),
   (.two .thn good quick, .two .thn good quick, [(ok 2, ok 2)]),
   (.two .both bad late, .two .both bad late, [(no 2, no 2)]),
   (.retry [] both, .retry [1] both, [(ok 1, ok 1), (no 3, ok 5), (no 3, no 7)]),
   (.retry [0] both, .retry [1] both, [(ok 1, ok 1), (ok 4, ok 5), (no 6, no 7)]),
   (.tmo (some 999999999) far, .tmo (some 1000000000) far, [(no 999999999, no 1000000000), (no 999999999, ok 1000000000)])]
section
variable {st : Sto} {P : Rv → Sto → Prop} {E : Er → Sto → Prop} {ρ : En}
noncomputable def cD (k : Nat) (a b : Str) : PyData := (((tbl a b).map csD)[k]?).getD .none
def dueD (xs : List Np) : PyData := .list (xs.map npD)
theorem ixd0 (x y : Np) : fIx (dueD [x, y]) (.int 0) = some (.d (npD x)) := rfl
theorem ixd1 (x y : Np) : fIx (dueD [x, y]) (.int 1) = some (.d (npD y)) := rfl
theorem w_cases {a b : Str} (h : P (.n (.l ((tbl a b).map csD))) st) : WVe E (sem__law_cases [.d (.str a), .d (.str b)] st) fun v s => back st.length v s P := by
  unfold sem__law_cases sb__law_cases
  rw [W_body]
  refine ⟨rfl, ?_⟩
  refine seq_cut (fun ρ s => ρ = [some (.d (.str a)), some (.d (.str b)), some (.d ((Pol.call a (some (2, 2)) none false).pd)), some (.d ((Pol.call a none (some (2, 2)) false).pd)), none, none, none, none, none, none, none] ∧ st = s) (by simp [szl] <;> first | rfl | exact ⟨rfl, rfl⟩ | exact ⟨by simp, rfl⟩ | exact ⟨by simp, by simp, rfl⟩) ?_
  rintro ρ s ⟨rfl, rfl⟩
  refine seq_cut (fun ρ s => ρ = [some (.d (.str a)), some (.d (.str b)), some (.d ((Pol.call a (some (2, 2)) none false).pd)), some (.d ((Pol.call a none (some (2, 2)) false).pd)), some (.d ((Pol.call a (some (1, 1)) (some (3, 3)) false).pd)), some (.d ((Pol.call b (some (1, 1)) none true).pd)), none, none, none, none, none] ∧ st = s) (by simp [szl] <;> first | rfl | exact ⟨rfl, rfl⟩ | exact ⟨by simp, rfl⟩ | exact ⟨by simp, by simp, rfl⟩) ?_
  rintro ρ s ⟨rfl, rfl⟩
  refine seq_cut (fun ρ s => ρ = [some (.d (.str a)), some (.d (.str b)), some (.d ((Pol.call a (some (2, 2)) none false).pd)), some (.d ((Pol.call a none (some (2, 2)) false).pd)), some (.d ((Pol.call a (some (1, 1)) (some (3, 3)) false).pd)), some (.d ((Pol.call b (some (1, 1)) none true).pd)), some (.d ((Pol.call b (some (0, 0)) none false).pd)), some (.d ((Pol.call a none none true).pd)), none, none, none] ∧ st = s) (by simp [szl] <;> first | rfl | exact ⟨rfl, rfl⟩ | exact ⟨by simp, rfl⟩ | exact ⟨by simp, by simp, rfl⟩) ?_
  rintro ρ s ⟨rfl, rfl⟩
  refine seq_cut (fun ρ s => ρ = [some (.d (.str a)), some (.d (.str b)), some (.d ((Pol.call a (some (2, 2)) none false).pd)), some (.d ((Pol.call a none (some (2, 2)) false).pd)), some (.d ((Pol.call a (some (1, 1)) (some (3, 3)) false).pd)), some (.d ((Pol.call b (some (1, 1)) none true).pd)), some (.d ((Pol.call b (some (0, 0)) none false).pd)), some (.d ((Pol.call a none none true).pd)), some (.d ((Pol.call a (some (1000000000, 1000000000)) none true).pd)), none, none] ∧ st = s) (by simp [szl] <;> first | rfl | exact ⟨rfl, rfl⟩ | exact ⟨by simp, rfl⟩ | exact ⟨by simp, by simp, rfl⟩) ?_
  rintro ρ s ⟨rfl, rfl⟩
  refine seq_cut (fun ρ s => ρ = [some (.d (.str a)), some (.d (.str b)), some (.d ((Pol.call a (some (2, 2)) none false).pd)), some (.d ((Pol.call a none (some (2, 2)) false).pd)), some (.d ((Pol.call a (some (1, 1)) (some (3, 3)) false).pd)), some (.d ((Pol.call b (some (1, 1)) none true).pd)), some (.d ((Pol.call b (some (0, 0)) none false).pd)), some (.d ((Pol.call a none none true).pd)), some (.d ((Pol.call a (some (1000000000, 1000000000)) none true).pd)), some (.c st.length), none] ∧ s = st ++ [.l [cD 0 a b]]) (by simp [szl] <;> first | rfl | exact ⟨rfl, rfl⟩ | exact ⟨by simp, rfl⟩ | exact ⟨by simp, by simp, rfl⟩) ?_
  rintro ρ s ⟨rfl, rfl⟩
  refine seq_cut (fun ρ s => ρ = [some (.d (.str a)), some (.d (.str b)), some (.d ((Pol.call a (some (2, 2)) none false).pd)), some (.d ((Pol.call a none (some (2, 2)) false).pd)), some (.d ((Pol.call a (some (1, 1)) (some (3, 3)) false).pd)), some (.d ((Pol.call b (some (1, 1)) none true).pd)), some (.d ((Pol.call b (some (0, 0)) none false).pd)), some (.d ((Pol.call a none none true).pd)), some (.d ((Pol.call a (some (1000000000, 1000000000)) none true).pd)), some (.c st.length), none] ∧ s = st ++ [.l [cD 0 a b, cD 1 a b]]) (by simp [szl] <;> first | rfl | exact ⟨rfl, rfl⟩ | exact ⟨by simp, rfl⟩ | exact ⟨by simp, by simp, rfl⟩) ?_
  rintro ρ s ⟨rfl, rfl⟩
  refine seq_cut (fun ρ s => ρ = [some (.d (.str a)), some (.d (.str b)), some (.d ((Pol.call a (some (2, 2)) none false).pd)), some (.d ((Pol.call a none (some (2, 2)) false).pd)), some (.d ((Pol.call a (some (1, 1)) (some (3, 3)) false).pd)), some (.d ((Pol.call b (some (1, 1)) none true).pd)), some (.d ((Pol.call b (some (0, 0)) none false).pd)), some (.d ((Pol.call a none none true).pd)), some (.d ((Pol.call a (some (1000000000, 1000000000)) none true).pd)), some (.c st.length), none] ∧ s = st ++ [.l [cD 0 a b, cD 1 a b, cD 2 a b]]) (by simp [szl] <;> first | rfl | exact ⟨rfl, rfl⟩ | exact ⟨by simp, rfl⟩ | exact ⟨by simp, by simp, rfl⟩) ?_
  rintro ρ s ⟨rfl, rfl⟩
  refine seq_cut (fun ρ s => ρ = [some (.d (.str a)), some (.d (.str b)), some (.d ((Pol.call a (some (2, 2)) none false).pd)), some (.d ((Pol.call a none (some (2, 2)) false).pd)), some (.d ((Pol.call a (some (1, 1)) (some (3, 3)) false).pd)), some (.d ((Pol.call b (some (1, 1)) none true).pd)), some (.d ((Pol.call b (some (0, 0)) none false).pd)), some (.d ((Pol.call a none none true).pd)), some (.d ((Pol.call a (some (1000000000, 1000000000)) none true).pd)), some (.c st.length), none] ∧ s = st ++ [.l [cD 0 a b, cD 1 a b, cD 2 a b, cD 3 a b]]) (by simp [szl] <;> first | rfl | exact ⟨rfl, rfl⟩ | exact ⟨by simp, rfl⟩ | exact ⟨by simp, by simp, rfl⟩) ?_
  rintro ρ s ⟨rfl, rfl⟩
  refine seq_cut (fun ρ s => ρ = [some (.d (.str a)), some (.d (.str b)), some (.d ((Pol.call a (some (2, 2)) none false).pd)), some (.d ((Pol.call a none (some (2, 2)) false).pd)), some (.d ((Pol.call a (some (1, 1)) (some (3, 3)) false).pd)), some (.d ((Pol.call b (some (1, 1)) none true).pd)), some (.d ((Pol.call b (some (0, 0)) none false).pd)), some (.d ((Pol.call a none none true).pd)), some (.d ((Pol.call a (some (1000000000, 1000000000)) none true).pd)), some (.c st.length), none] ∧ s = st ++ [.l [cD 0 a b, cD 1 a b, cD 2 a b, cD 3 a b, cD 4 a b]]) (by simp [szl] <;> first | rfl | exact ⟨rfl, rfl⟩ | exact ⟨by simp, rfl⟩ | exact ⟨by simp, by simp, rfl⟩) ?_
  rintro ρ s ⟨rfl, rfl⟩
  refine seq_cut (fun ρ s => ρ = [some (.d (.str a)), some (.d (.str b)), some (.d ((Pol.call a (some (2, 2)) none false).pd)), some (.d ((Pol.call a none (some (2, 2)) false).pd)), some (.d ((Pol.call a (some (1, 1)) (some (3, 3)) false).pd)), some (.d ((Pol.call b (some (1, 1)) none true).pd)), some (.d ((Pol.call b (some (0, 0)) none false).pd)), some (.d ((Pol.call a none none true).pd)), some (.d ((Pol.call a (some (1000000000, 1000000000)) none true).pd)), some (.c st.length), some (.d (dueD [((some (2, false) : Nd), (some (1, true) : Nd)), ((some (2, false) : Nd), (some (2, false) : Nd))]))] ∧ s = st ++ [.l [cD 0 a b, cD 1 a b, cD 2 a b, cD 3 a b, cD 4 a b]]) (by simp [szl] <;> first | rfl | exact ⟨rfl, rfl⟩ | exact ⟨by simp, rfl⟩ | exact ⟨by simp, by simp, rfl⟩) ?_
  rintro ρ s ⟨rfl, rfl⟩
  refine seq_cut (fun ρ s => ρ = [some (.d (.str a)), some (.d (.str b)), some (.d ((Pol.call a (some (2, 2)) none false).pd)), some (.d ((Pol.call a none (some (2, 2)) false).pd)), some (.d ((Pol.call a (some (1, 1)) (some (3, 3)) false).pd)), some (.d ((Pol.call b (some (1, 1)) none true).pd)), some (.d ((Pol.call b (some (0, 0)) none false).pd)), some (.d ((Pol.call a none none true).pd)), some (.d ((Pol.call a (some (1000000000, 1000000000)) none true).pd)), some (.c st.length), some (.d (dueD [((some (2, false) : Nd), (some (1, true) : Nd)), ((some (2, false) : Nd), (some (2, false) : Nd))]))] ∧ s = st ++ [.l [cD 0 a b, cD 1 a b, cD 2 a b, cD 3 a b, cD 4 a b, cD 5 a b]]) (by simp [szl] <;> first | rfl | exact ⟨rfl, rfl⟩ | exact ⟨by simp, rfl⟩ | exact ⟨by simp, by simp, rfl⟩) ?_
  rintro ρ s ⟨rfl, rfl⟩
  refine seq_cut (fun ρ s => ρ = [some (.d (.str a)), some (.d (.str b)), some (.d ((Pol.call a (some (2, 2)) none false).pd)), some (.d ((Pol.call a none (some (2, 2)) false).pd)), some (.d ((Pol.call a (some (1, 1)) (some (3, 3)) false).pd)), some (.d ((Pol.call b (some (1, 1)) none true).pd)), some (.d ((Pol.call b (some (0, 0)) none false).pd)), some (.d ((Pol.call a none none true).pd)), some (.d ((Pol.call a (some (1000000000, 1000000000)) none true).pd)), some (.c st.length), some (.d (dueD [((some (2, false) : Nd), (some (1, true) : Nd)), ((some (2, false) : Nd), (some (2, false) : Nd))]))] ∧ s = st ++ [.l [cD 0 a b, cD 1 a b, cD 2 a b, cD 3 a b, cD 4 a b, cD 5 a b, cD 6 a b]]) (by simp [szl] <;> first | rfl | exact ⟨rfl, rfl⟩ | exact ⟨by simp, rfl⟩ | exact ⟨by simp, by simp, rfl⟩) ?_
  rintro ρ s ⟨rfl, rfl⟩
  refine seq_cut (fun ρ s => ρ = [some (.d (.str a)), some (.d (.str b)), some (.d ((Pol.call a (some (2, 2)) none false).pd)), some (.d ((Pol.call a none (some (2, 2)) false).pd)), some (.d ((Pol.call a (some (1, 1)) (some (3, 3)) false).pd)), some (.d ((Pol.call b (some (1, 1)) none true).pd)), some (.d ((Pol.call b (some (0, 0)) none false).pd)), some (.d ((Pol.call a none none true).pd)), some (.d ((Pol.call a (some (1000000000, 1000000000)) none true).pd)), some (.c st.length), some (.d (dueD [((some (2, true) : Nd), none), (none, none)]))] ∧ s = st ++ [.l [cD 0 a b, cD 1 a b, cD 2 a b, cD 3 a b, cD 4 a b, cD 5 a b, cD 6 a b]]) (by simp [szl] <;> first | rfl | exact ⟨rfl, rfl⟩ | exact ⟨by simp, rfl⟩ | exact ⟨by simp, by simp, rfl⟩) ?_
  rintro ρ s ⟨rfl, rfl⟩
  refine seq_cut (fun ρ s => ρ = [some (.d (.str a)), some (.d (.str b)), some (.d ((Pol.call a (some (2, 2)) none false).pd)), some (.d ((Pol.call a none (some (2, 2)) false).pd)), some (.d ((Pol.call a (some (1, 1)) (some (3, 3)) false).pd)), some (.d ((Pol.call b (some (1, 1)) none true).pd)), some (.d ((Pol.call b (some (0, 0)) none false).pd)), some (.d ((Pol.call a none none true).pd)), some (.d ((Pol.call a (some (1000000000, 1000000000)) none true).pd)), some (.c st.length), some (.d (dueD [((some (2, true) : Nd), none), (none, none)]))] ∧ s = st ++ [.l [cD 0 a b, cD 1 a b, cD 2 a b, cD 3 a b, cD 4 a b, cD 5 a b, cD 6 a b, cD 7 a b]]) (by simp [szl] <;> first | rfl | exact ⟨rfl, rfl⟩ | exact ⟨by simp, rfl⟩ | exact ⟨by simp, by simp, rfl⟩) ?_
  rintro ρ s ⟨rfl, rfl⟩
  refine seq_cut (fun ρ s => ρ = [some (.d (.str a)), some (.d (.str b)), some (.d ((Pol.call a (some (2, 2)) none false).pd)), some (.d ((Pol.call a none (some (2, 2)) false).pd)), some (.d ((Pol.call a (some (1, 1)) (some (3, 3)) false).pd)), some (.d ((Pol.call b (some (1, 1)) none true).pd)), some (.d ((Pol.call b (some (0, 0)) none false).pd)), some (.d ((Pol.call a none none true).pd)), some (.d ((Pol.call a (some (1000000000, 1000000000)) none true).pd)), some (.c st.length), some (.d (dueD [((some (2, true) : Nd), none), (none, none)]))] ∧ s = st ++ [.l [cD 0 a b, cD 1 a b, cD 2 a b, cD 3 a b, cD 4 a b, cD 5 a b, cD 6 a b, cD 7 a b, cD 8 a b]]) (by simp [szl] <;> first | rfl | exact ⟨rfl, rfl⟩ | exact ⟨by simp, rfl⟩ | exact ⟨by simp, by simp, rfl⟩) ?_
  rintro ρ s ⟨rfl, rfl⟩
  refine seq_cut (fun ρ s => ρ = [some (.d (.str a)), some (.d (.str b)), some (.d ((Pol.call a (some (2, 2)) none false).pd)), some (.d ((Pol.call a none (some (2, 2)) false).pd)), some (.d ((Pol.call a (some (1, 1)) (some (3, 3)) false).pd)), some (.d ((Pol.call b (some (1, 1)) none true).pd)), some (.d ((Pol.call b (some (0, 0)) none false).pd)), some (.d ((Pol.call a none none true).pd)), some (.d ((Pol.call a (some (1000000000, 1000000000)) none true).pd)), some (.c st.length), some (.d (dueD [((some (2, true) : Nd), none), (none, none)]))] ∧ s = st ++ [.l [cD 0 a b, cD 1 a b, cD 2 a b, cD 3 a b, cD 4 a b, cD 5 a b, cD 6 a b, cD 7 a b, cD 8 a b, cD 9 a b]]) (by simp [szl] <;> first | rfl | exact ⟨rfl, rfl⟩ | exact ⟨by simp, rfl⟩ | exact ⟨by simp, by simp, rfl⟩) ?_
  rintro ρ s ⟨rfl, rfl⟩
  refine seq_cut (fun ρ s => ρ = [some (.d (.str a)), some (.d (.str b)), some (.d ((Pol.call a (some (2, 2)) none false).pd)), some (.d ((Pol.call a none (some (2, 2)) false).pd)), some (.d ((Pol.call a (some (1, 1)) (some (3, 3)) false).pd)), some (.d ((Pol.call b (some (1, 1)) none true).pd)), some (.d ((Pol.call b (some (0, 0)) none false).pd)), some (.d ((Pol.call a none none true).pd)), some (.d ((Pol.call a (some (1000000000, 1000000000)) none true).pd)), some (.c st.length), some (.d (dueD [((some (2, true) : Nd), none), (none, none)]))] ∧ s = st ++ [.l [cD 0 a b, cD 1 a b, cD 2 a b, cD 3 a b, cD 4 a b, cD 5 a b, cD 6 a b, cD 7 a b, cD 8 a b, cD 9 a b, cD 10 a b]]) (by simp [szl] <;> first | rfl | exact ⟨rfl, rfl⟩ | exact ⟨by simp, rfl⟩ | exact ⟨by simp, by simp, rfl⟩) ?_
  rintro ρ s ⟨rfl, rfl⟩
  refine seq_cut (fun ρ s => ρ = [some (.d (.str a)), some (.d (.str b)), some (.d ((Pol.call a (some (2, 2)) none false).pd)), some (.d ((Pol.call a none (some (2, 2)) false).pd)), some (.d ((Pol.call a (some (1, 1)) (some (3, 3)) false).pd)), some (.d ((Pol.call b (some (1, 1)) none true).pd)), some (.d ((Pol.call b (some (0, 0)) none false).pd)), some (.d ((Pol.call a none none true).pd)), some (.d ((Pol.call a (some (1000000000, 1000000000)) none true).pd)), some (.c st.length), some (.d (dueD [((some (2, true) : Nd), none), (none, none)]))] ∧ s = st ++ [.l [cD 0 a b, cD 1 a b, cD 2 a b, cD 3 a b, cD 4 a b, cD 5 a b, cD 6 a b, cD 7 a b, cD 8 a b, cD 9 a b, cD 10 a b, cD 11 a b]]) (by simp [szl] <;> first | rfl | exact ⟨rfl, rfl⟩ | exact ⟨by simp, rfl⟩ | exact ⟨by simp, by simp, rfl⟩) ?_
  rintro ρ s ⟨rfl, rfl⟩
  refine seq_cut (fun ρ s => ρ = [some (.d (.str a)), some (.d (.str b)), some (.d ((Pol.call a (some (2, 2)) none false).pd)), some (.d ((Pol.call a none (some (2, 2)) false).pd)), some (.d ((Pol.call a (some (1, 1)) (some (3, 3)) false).pd)), some (.d ((Pol.call b (some (1, 1)) none true).pd)), some (.d ((Pol.call b (some (0, 0)) none false).pd)), some (.d ((Pol.call a none none true).pd)), some (.d ((Pol.call a (some (1000000000, 1000000000)) none true).pd)), some (.c st.length), some (.d (dueD [((some (1, true) : Nd), (some (1, true) : Nd)), ((some (3, false) : Nd), (some (5, true) : Nd)), ((some (3, false) : Nd), (some (7, false) : Nd))]))] ∧ s = st ++ [.l [cD 0 a b, cD 1 a b, cD 2 a b, cD 3 a b, cD 4 a b, cD 5 a b, cD 6 a b, cD 7 a b, cD 8 a b, cD 9 a b, cD 10 a b, cD 11 a b]]) (by simp [szl] <;> first | rfl | exact ⟨rfl, rfl⟩ | exact ⟨by simp, rfl⟩ | exact ⟨by simp, by simp, rfl⟩) ?_
  rintro ρ s ⟨rfl, rfl⟩
  refine seq_cut (fun ρ s => ρ = [some (.d (.str a)), some (.d (.str b)), some (.d ((Pol.call a (some (2, 2)) none false).pd)), some (.d ((Pol.call a none (some (2, 2)) false).pd)), some (.d ((Pol.call a (some (1, 1)) (some (3, 3)) false).pd)), some (.d ((Pol.call b (some (1, 1)) none true).pd)), some (.d ((Pol.call b (some (0, 0)) none false).pd)), some (.d ((Pol.call a none none true).pd)), some (.d ((Pol.call a (some (1000000000, 1000000000)) none true).pd)), some (.c st.length), some (.d (dueD [((some (1, true) : Nd), (some (1, true) : Nd)), ((some (3, false) : Nd), (some (5, true) : Nd)), ((some (3, false) : Nd), (some (7, false) : Nd))]))] ∧ s = st ++ [.l [cD 0 a b, cD 1 a b, cD 2 a b, cD 3 a b, cD 4 a b, cD 5 a b, cD 6 a b, cD 7 a b, cD 8 a b, cD 9 a b, cD 10 a b, cD 11 a b, cD 12 a b]]) (by simp [szl] <;> first | rfl | exact ⟨rfl, rfl⟩ | exact ⟨by simp, rfl⟩ | exact ⟨by simp, by simp, rfl⟩) ?_
  rintro ρ s ⟨rfl, rfl⟩
  refine seq_cut (fun ρ s => ρ = [some (.d (.str a)), some (.d (.str b)), some (.d ((Pol.call a (some (2, 2)) none false).pd)), some (.d ((Pol.call a none (some (2, 2)) false).pd)), some (.d ((Pol.call a (some (1, 1)) (some (3, 3)) false).pd)), some (.d ((Pol.call b (some (1, 1)) none true).pd)), some (.d ((Pol.call b (some (0, 0)) none false).pd)), some (.d ((Pol.call a none none true).pd)), some (.d ((Pol.call a (some (1000000000, 1000000000)) none true).pd)), some (.c st.length), some (.d (dueD [((some (1, true) : Nd), (some (1, true) : Nd)), ((some (4, true) : Nd), (some (5, true) : Nd)), ((some (6, false) : Nd), (some (7, false) : Nd))]))] ∧ s = st ++ [.l [cD 0 a b, cD 1 a b, cD 2 a b, cD 3 a b, cD 4 a b, cD 5 a b, cD 6 a b, cD 7 a b, cD 8 a b, cD 9 a b, cD 10 a b, cD 11 a b, cD 12 a b]]) (by simp [szl] <;> first | rfl | exact ⟨rfl, rfl⟩ | exact ⟨by simp, rfl⟩ | exact ⟨by simp, by simp, rfl⟩) ?_
  rintro ρ s ⟨rfl, rfl⟩
  refine seq_cut (fun ρ s => ρ = [some (.d (.str a)), some (.d (.str b)), some (.d ((Pol.call a (some (2, 2)) none false).pd)), some (.d ((Pol.call a none (some (2, 2)) false).pd)), some (.d ((Pol.call a (some (1, 1)) (some (3, 3)) false).pd)), some (.d ((Pol.call b (some (1, 1)) none true).pd)), some (.d ((Pol.call b (some (0, 0)) none false).pd)), some (.d ((Pol.call a none none true).pd)), some (.d ((Pol.call a (some (1000000000, 1000000000)) none true).pd)), some (.c st.length), some (.d (dueD [((some (1, true) : Nd), (some (1, true) : Nd)), ((some (4, true) : Nd), (some (5, true) : Nd)), ((some (6, false) : Nd), (some (7, false) : Nd))]))] ∧ s = st ++ [.l [cD 0 a b, cD 1 a b, cD 2 a b, cD 3 a b, cD 4 a b, cD 5 a b, cD 6 a b, cD 7 a b, cD 8 a b, cD 9 a b, cD 10 a b, cD 11 a b, cD 12 a b, cD 13 a b]]) (by simp [szl] <;> first | rfl | exact ⟨rfl, rfl⟩ | exact ⟨by simp, rfl⟩ | exact ⟨by simp, by simp, rfl⟩) ?_
  rintro ρ s ⟨rfl, rfl⟩
  refine seq_cut (fun ρ s => ρ = [some (.d (.str a)), some (.d (.str b)), some (.d ((Pol.call a (some (2, 2)) none false).pd)), some (.d ((Pol.call a none (some (2, 2)) false).pd)), some (.d ((Pol.call a (some (1, 1)) (some (3, 3)) false).pd)), some (.d ((Pol.call b (some (1, 1)) none true).pd)), some (.d ((Pol.call b (some (0, 0)) none false).pd)), some (.d ((Pol.call a none none true).pd)), some (.d ((Pol.call a (some (1000000000, 1000000000)) none true).pd)), some (.c st.length), some (.d (dueD [((some (999999999, false) : Nd), (some (1000000000, true) : Nd)), ((some (999999999, false) : Nd), (some (1000000000, false) : Nd))]))] ∧ s = st ++ [.l [cD 0 a b, cD 1 a b, cD 2 a b, cD 3 a b, cD 4 a b, cD 5 a b, cD 6 a b, cD 7 a b, cD 8 a b, cD 9 a b, cD 10 a b, cD 11 a b, cD 12 a b, cD 13 a b]]) (by simp [szl] <;> first | rfl | exact ⟨rfl, rfl⟩ | exact ⟨by simp, rfl⟩ | exact ⟨by simp, by simp, rfl⟩) ?_
  rintro ρ s ⟨rfl, rfl⟩
  refine seq_cut (fun ρ s => ρ = [some (.d (.str a)), some (.d (.str b)), some (.d ((Pol.call a (some (2, 2)) none false).pd)), some (.d ((Pol.call a none (some (2, 2)) false).pd)), some (.d ((Pol.call a (some (1, 1)) (some (3, 3)) false).pd)), some (.d ((Pol.call b (some (1, 1)) none true).pd)), some (.d ((Pol.call b (some (0, 0)) none false).pd)), some (.d ((Pol.call a none none true).pd)), some (.d ((Pol.call a (some (1000000000, 1000000000)) none true).pd)), some (.c st.length), some (.d (dueD [((some (999999999, false) : Nd), (some (1000000000, true) : Nd)), ((some (999999999, false) : Nd), (some (1000000000, false) : Nd))]))] ∧ s = st ++ [.l [cD 0 a b, cD 1 a b, cD 2 a b, cD 3 a b, cD 4 a b, cD 5 a b, cD 6 a b, cD 7 a b, cD 8 a b, cD 9 a b, cD 10 a b, cD 11 a b, cD 12 a b, cD 13 a b, cD 14 a b]]) (by simp [szl, ixd0, ixd1, allD]; exact ⟨by decide +kernel, rfl⟩) ?_
  rintro ρ s ⟨rfl, rfl⟩
  simp
  exact h
end
end K38
namespace K38
open PySem L2 Cp Cp.Jt
structure CaseOk (c : Cs) : Prop where
  p : PJ c.1
  q : PJ c.2.1
  f : Fm c.1 c.2.1
  f' : Fm c.2.1 c.1
  o : ∃ o, jog c.1 c.2.1 = some o ∧ c.2.2.Perm (keys o)
  s : c.2.2.Pairwise fun a b => npLe a b = true
  o' : ∃ o, jog c.2.1 c.1 = some o ∧ (keys o).Perm (c.2.2.map swp)
  k : NpsS c.2.2
  l : c.2.2.length ≤ 10
def ndB : Nd → Bool
  | none => true
  | some p => decide (p.1.natAbs < 2 ^ 64)
def npsB (xs : List Np) : Bool := xs.all fun x => ndB x.1 && ndB x.2
theorem ndB_ok {e : Nd} (h : ndB e = true) : NdS e := fun p hp => by
  subst hp
  have h : p.1.natAbs < 2 ^ 64 := of_decide_eq_true h
  by_cases h0 : p.1.natAbs = 0
  · rw [h0]; decide
  · have := (Nat.log2_lt h0).mpr h
    omega
theorem npsB_ok {xs : List Np} (h : npsB xs = true) : NpsS xs := fun x hx => by
  have := List.all_eq_true.mp h x hx
  rw [Bool.and_eq_true] at this
  exact ⟨ndB_ok this.1, ndB_ok this.2⟩
theorem case_ok {a b : Str} (ha : IsLab a) (hb : IsLab b) : ∀ c ∈ tbl a b, CaseOk c := by
  intro c hc
  simp only [tbl, List.mem_cons, List.not_mem_nil, or_false] at hc
  rcases hc with rfl | rfl | rfl | rfl | rfl | rfl | rfl | rfl | rfl | rfl | rfl | rfl | rfl | rfl | rfl
  all_goals
    refine ⟨⟨?_, ?_, ?_, ?_, ?_⟩, ⟨?_, ?_, ?_, ?_, ?_⟩, ?_, ?_, ⟨_, rfl, ?_⟩, ?_, ⟨_, rfl, ?_⟩, ?_, ?_⟩
  all_goals first
    | (simp [Pol.All, Pol.Node, SpOk, NuOk, ha, hb]; done)
    | (simp [Pol.depth]; done)
    | (simp [Pol.Ok0, spO, nuO]; done)
    | (simp [JT, topO]; done)
    | (simp [Pol.Few]; done)
    | (simp [Fm]; done)
    | decide
    | (dsimp only; decide +kernel)
    | exact npsB_ok (by decide +kernel)
    | (refine npsB_ok ?_; dsimp only; decide +kernel)
end K38
namespace K38
open PySem L2 Cp Cp.Jt
noncomputable def sbIn : Sv := (sSeq (sIf (mCmp gNe (mCal (g1 fRepr) (aCons (mV (mCall semJ_joint_endings (aCons (mV (mN 4)) (aCons (mV (mN 5)) aNil)))) aNil)) (mCal (g1 fRepr) (aCons (mV (mN 6)) aNil))) (sRet (mK (.bool false))) sNil) (sSeq (sAsg (gNm 7) (mV (mCal (g1 fSorted) (aCons (mV (mLc (iOf (mN 6)) (gNm 8) ttY (mCal (g1 fRepr) (aCons (mV (mTurn (mN 8))) aNil)) [8])) aNil)))) (sIf (mCmp gNe (mCal (g1 fSorted) (aCons (mV (mLc (iOf (mCall semJ_joint_endings (aCons (mV (mN 5)) (aCons (mV (mN 4)) aNil)))) (gNm 8) ttY (mCal (g1 fRepr) (aCons (mV (mN 8)) aNil)) [8])) aNil)) (mN 7)) (sRet (mK (.bool false))) sNil)))
section
variable {st : Sto} {P : Rv → Sto → Prop} {E : Er → Sto → Prop} {ρ : En} {N B C : En → Sto → Prop} {R : Rv → Sto → Prop} {x0 x1 x2 x3 x7 x8 : Option Vl}
theorem lc_show {g : Gm} {te : Ev} {all : List PyData} {Q : List PyData → Sto → Prop} (f : PyData → PyData) (xs : List Np) (hl : xs.length ≤ 1000) 
    (hs : ∀ x ∈ xs, WVe noE (g (.d (npD x)) ρ st) fun ρ1 s1 => WVe noE (te ρ1 s1) fun r s3 => frz r = .d (f (npD x)) ∧ s3 = st) (h : Q (xs.map fun x => f (npD x)) st) : WVe E (lcGo g ttY te none all ρ (xs.map npD) st []) Q := by
  refine lc_map f (fun d hd => ?_) (by rw [List.length_map, szl]; omega) ?_
  · obtain ⟨x, hx, rfl⟩ := List.mem_map.mp hd
    exact hs x hx
  · rw [List.map_map]
    exact h
def tx (x : Np) : Str := (npD x).shown
theorem w_in {c : Cs} (hc : CaseOk c) (h0 : 0 < st.length) (hN : ∀ y z, N [x0, x1, x2, x3, some (.d c.1.pd), some (.d c.2.1.pd), some (.d (ogV c.2.2)), y, z] st) :
    WSe noE (sbIn [x0, x1, x2, x3, some (.d c.1.pd), some (.d c.2.1.pd), some (.d (ogV c.2.2)), x7, x8] st) N B C R := by
  obtain ⟨p, q, due⟩ := c
  obtain ⟨hp, hq, hf, hf', ⟨o, ho, hperm⟩, hs, ⟨o', ho', hperm'⟩, hk, hl⟩ := hc
  have hl : due.length ≤ 10 := hl
  have kJ := @w_jend
  unfold sbIn
  generalize semJ_joint_endings = J at kJ ⊢
  have hg := show_nps hk (by omega)
  have hg2 : fRepr (ogV due) = some (.d (.str (ogV due).shown)) := hg.1
  have hg3 : gNe (.str (ogV due).shown) (.str (ogV due).shown) = some false := gNe_same (shaped_ok (d := .str (ogV due).shown) hg.2 (Nat.zero_le _))
  refine seq_cut (fun ρ s => ρ = [x0, x1, x2, x3, some (.d p.pd), some (.d q.pd), some (.d (ogV due)), x7, x8] ∧ s = st) ?_ ?_
  · simp
    refine kJ hp hq h0 (fun _ o2 ho2 => ?_) (fun _ hn => by rw [ho] at hn; cases hn) (fun hn => absurd hf hn)
    rw [ho] at ho2
    cases ho2
    rw [jsort_is hperm hs]
    have e : PyData.tuple (due.map npD) = ogV due := rfl
    simp [e, hg2, hg3]
  rintro ρ s ⟨rfl, rfl⟩
  have hT : ∀ x ∈ due, fRepr (npD (swp x)) = some (.d (.str (tx (swp x)))) := fun x hx => show_np (hk x hx).2 (hk x hx).1
  refine seq_cut (fun ρ s' => (∃ z, ρ = [x0, x1, x2, x3, some (.d p.pd), some (.d q.pd), some (.d (ogV due)), some (.d (.list ((sortS (due.map fun x => tx (swp x))).map PyData.str))), z]) ∧ s' = s) ?_ ?_
  · simp [ogV]
    refine lc_show (fun d => match d with
      | .tuple [a, b] => .str (PyData.tuple [b, a]).shown
      | d => d) due (by omega) (fun x hx => ?_) ?_
    · have e1 : frz (.d (npD x)) = Vl.d (.tuple [ndD x.1, ndD x.2]) := rfl
      have e2 := hT x hx
      have e3 : npD (swp x) = .tuple [ndD x.2, ndD x.1] := rfl
      simp [wipeE, npD]
      rw [← e3, e2]
      simp
      rfl
    · have e4 : (due.map fun x => (match npD x with
        | .tuple [a, b] => PyData.str (PyData.tuple [b, a]).shown
        | d => d)) = (due.map fun x => tx (swp x)).map PyData.str := by
        rw [List.map_map]
        rfl
      rw [e4, srt_T]
      simp
  rintro ρ s' ⟨⟨z, rfl⟩, rfl⟩
  simp
  refine kJ hq hp h0 (fun _ o2 ho2 => ?_) (fun _ hn => by rw [ho'] at hn; cases hn) (fun hn => absurd hf' hn)
  rw [ho'] at ho2
  cases ho2
  simp
  have hpm : (jsort (keys o')).Perm (due.map swp) := (jsort_perm _).trans hperm'
  have hks : ∀ x ∈ jsort (keys o'), NdS x.1 ∧ NdS x.2 := fun x hx => by
    obtain ⟨y, hy, rfl⟩ := List.mem_map.mp (hpm.mem_iff.mp hx)
    exact ⟨(hk y hy).2, (hk y hy).1⟩
  have hlen : (jsort (keys o')).length ≤ 1000 := by rw [hpm.length_eq, List.length_map]; omega
  generalize jsort (keys o') = xs at hpm hks hlen
  refine lc_show (fun d => .str d.shown) xs hlen (fun x hx => ?_) ?_
  · simp [wipeE, show_np (hks x hx).1 (hks x hx).2]
  · have e4 : (xs.map fun x => PyData.str (npD x).shown) = (xs.map tx).map PyData.str := by
      rw [List.map_map]
      rfl
    have e5 : sortS (xs.map tx) = sortS (due.map fun x => tx (swp x)) := by
      refine sortS_perm ?_
      have := hpm.map tx
      rw [List.map_map] at this
      exact this
    rw [e4, srt_T, e5]
    have e6 : gNe (.list ((sortS (due.map fun x => tx (swp x))).map PyData.str)) (.list ((sortS (due.map fun x => tx (swp x))).map PyData.str)) = some false := by
      refine gNe_same (shaped_ok (d := .list ((sortS (due.map fun x => tx (swp x))).map PyData.str)) ?_ ?_)
      · have : ∀ l : List Str, (∀ t ∈ l, Sgn t) → okSs (l.map PyData.str) := by
          intro l
          induction l with
          | nil => intro _; trivial
          | cons t l ih => intro h; exact ⟨h t (by simp), ih fun u hu => h u (List.mem_cons_of_mem _ hu)⟩
        refine this _ fun t ht => ?_
        have ht := (sortS_ok _).1.mem_iff.mp ht
        obtain ⟨x, hx, rfl⟩ := List.mem_map.mp ht
        exact shown_sgn (np_okS (hk x hx).2 (hk x hx).1).1
      · have := depthAll_le (B := 0) (ds := (sortS (due.map fun x => tx (swp x))).map PyData.str) fun d hd => by
          obtain ⟨x, _, rfl⟩ := List.mem_map.mp hd; exact Nat.le_refl _
        simp only [PyData.depth]
        omega
    simp [e6]
    exact hN _ _
theorem in_eq : (sSeq (sIf (mCmp gNe (mCal (g1 fRepr) (aCons (mV (mCall sem_joint_endings (aCons (mV (mN 4)) (aCons (mV (mN 5)) aNil)))) aNil)) (mCal (g1 fRepr) (aCons (mV (mN 6)) aNil))) (sRet (mK (.bool false))) sNil) (sSeq (sAsg (gNm 7) (mV (mCal (g1 fSorted) (aCons (mV (mLc (iOf (mN 6)) (gNm 8) ttY (mCal (g1 fRepr) (aCons (mV (mTurn (mN 8))) aNil)) [8])) aNil)))) (sIf (mCmp gNe (mCal (g1 fSorted) (aCons (mV (mLc (iOf (mCall sem_joint_endings (aCons (mV (mN 5)) (aCons (mV (mN 4)) aNil)))) (gNm 8) ttY (mCal (g1 fRepr) (aCons (mV (mN 8)) aNil)) [8])) aNil)) (mN 7)) (sRet (mK (.bool false))) sNil))) = sbIn := by rw [eJe]; rfl
def Il (ns : List Int) (ρ : En) : Prop := ∃ b1 b2 b3 b4 b5 b6 b7 b8, ρ = [some (.s ns), b1, b2, b3, b4, b5, b6, b7, b8]
theorem lab38 {x : PyData} (hx : x ∈ [PyData.str (Str.ofString ""), .str (Str.ofString "call"), .str (Str.ofString "x7")]) : ∃ s : Str, x = .str s ∧ IsLab (s ++ Str.ofString "a") ∧ IsLab (s ++ Str.ofString "b") ∧ s.length ≤ 10 := by
  simp at hx
  rcases hx with rfl | rfl | rfl <;> exact ⟨_, rfl, isLabB_ok (by decide +kernel), isLabB_ok (by decide +kernel), by decide +kernel⟩
theorem w_law {ns : List Int} (hl : ns.length ≤ 63) : WVe noE (sem_law [.s ns] [heapC []]) fun r _ => r = .d (.bool true) := by
  unfold sem_law sb_law
  rw [in_eq]
  have kI := @w_in
  generalize sbIn = I at kI ⊢
  rw [W_body]
  refine ⟨rfl, ?_⟩
  refine seq_cut (fun ρ s => Il ns ρ) ?_ ?_
  · simp
    have hn : ∃ n : Int, (if 1 < if (ns.length : Int) < 3 then (ns.length : Int) else 3 then if (ns.length : Int) < 3 then (ns.length : Int) else 3 else 1) = n ∧ 0 ≤ n ∧ n ≤ 3 := ⟨_, rfl, by split <;> split <;> omega, by split <;> split <;> omega⟩
    obtain ⟨n, e, n0, n3⟩ := hn
    rw [e]
    refine ⟨rOk_of2 (by decide) (by decide) (by omega) (by omega), ?_⟩
    refine forGo_by (I := fun _ ρ s => Il ns ρ ∧ 0 < s.length) _ 0 ⟨⟨_, _, _, _, _, _, _, _, rfl⟩, by simp⟩ (fun _ _ _ _ => trivial) ?_ fun _ _ h => h.1
    rintro k d ρ s hd ⟨⟨b1, b2, b3, b4, b5, b6, b7, b8, rfl⟩, hs0⟩
    obtain ⟨rfl, hkj⟩ := rngD_get hd
    simp [eU, eO]
    refine w_urn (by omega) (by omega) fun u hU => ?_
    simp [szl]
    refine w_of (xs := [PyData.str (Str.ofString ""), .str (Str.ofString "call"), .str (Str.ofString "x7")]) (by simp) hU (by decide) (by simp) (by decide) fun x u1 hx hU1 => ?_
    obtain ⟨stem, rfl, ha, hb, hsl⟩ := lab38 hx
    have l1 : (Str.ofString "a").length = 1 := rfl
    have l2 : (Str.ofString "b").length = 1 := rfl
    have hlen : s.length + 1 = (s ++ [u1]).length := by simp
    simp [l1, l2, szl]
    rw [hlen]
    refine ⟨by omega, w_cases ?_⟩
    have hok := case_ok ha hb
    generalize tbl (stem ++ Str.ofString "a") (stem ++ Str.ofString "b") = cs at hok
    simp
    refine forGo_by (I := fun _ ρ s => (∃ b0 b2 b3 b4 b5 b6 b7 b8, ρ = [some (.s ns), b0, b2, b3, b4, b5, b6, b7, b8]) ∧ 0 < s.length) _ 0 ⟨⟨_, _, _, _, _, _, _, _, rfl⟩, by simp⟩ (fun _ _ _ _ => trivial) ?_ fun _ _ h => ⟨h.1, h.2⟩
    rintro i d ρ s' hd2 ⟨⟨c0, c2, c3, c4, c5, c6, c7, c8, rfl⟩, hs'⟩
    rw [List.getElem?_map] at hd2
    obtain ⟨c, hc, rfl⟩ := Option.map_eq_some_iff.mp hd2
    simp [csD]
    exact kI (hok c (List.mem_of_getElem? hc)) hs' fun y z => ⟨⟨_, _, _, _, _, _, _, _, rfl⟩, hs'⟩
  · rintro ρ s ⟨b1, b2, b3, b4, b5, b6, b7, b8, rfl⟩
    simp
theorem sem_true (ns : List Int) (hl : ns.length ≤ 63) : ∃ st, sem_law [.s ns] [heapC []] = .ok (.d (.bool true)) st := by
  obtain ⟨r, s, e, rfl⟩ := WV_ex (w_law hl)
  exact ⟨s, e⟩
end
end K38
theorem PySem.Challenge.cw_callpolicy_k38_joint_endings_by_hand_holds : PySem.Challenge.rw_callpolicy_k38_joint_endings_by_hand.Holds := by
  exact K38.holds_of K38.sem_true
