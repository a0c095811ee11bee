import PyProof.Rows.All
import Wide.All
import OpenK.AllK
import Wide.FinOn
import HandS.ForMost
import HandS.Exc
import HandS.HeadHook1
import HandS.HeadHook4
import HandS.Lambda
import KE.KDictKeyed
import HandS.TupAny
import HandS.Style
import HandS.Deep
import HandS.Wide
import HandS.TupMul
import HandS.SortRule
import HandS.SortInts
import HandS.Conv
import KE.SortData
import PyProof.RowDictHeap
import PyProof.ReprRoads
import PyProof.CallFns
import HandS.Zip
import HandS.ForExc
import HandS.Defaults
import HandS.HeadHook2
import HandS.HeadEnd
import PyProof.Draws
import PyProof.StrBlock2
import KE.GoesMore
import HandS.Text
import HandS.SetFor
import PyProof.StrLaws
import PyProof.StrLawsRepr
import PyProof.FitsInt
import PyProof.ReprReads
import HandS.IsInst
import HandS.Dict
import HandS.TryOnly
import HandS.ExcOwn
import HandS.ExcInit
import HandS.ExcValue
import HandS.ExcIs
import HandS.ExcField
import KE.KExcIs
import KE.KRevSl
import HandS.HeadHook3
import HandS.More
import PyProof.DictUpdate
import KE.KDictPairs
import HandS.Steps
import HandS.Base
import HandS.Call
import HandS.Head0
import HandS.Head1
import HandS.Head2
import HandS.Ends
import HandS.Words
import HandS.WordsExc
import KE.KStateDown
import PySem.Challenge.RW_callpolicy_k12_errors
set_option Elab.async false
set_option linter.all false
set_option maxRecDepth 100000
set_option maxHeartbeats 0
/-! Cp0: values by content over the hand layer: data (PyData), cells (lists and dicts that change), what an expression and a statement mean as functions, and how such a meaning is a reading. -/
namespace Cp
open PySem L2
/-- the written part, and the world (texts hash by it) -/
structure Kw where
  K : PySem.W.Frag
  w : World
instance : Coe Kw PySem.W.Frag := ⟨Kw.K⟩
structure Er where
  cls : Str
  arg : Option (Str × PyData)
/-- what a field of an object holds, or an item of its list -/
inductive Fv where
  | d (x : PyData)
  | ob (j : Nat)
/-- a thunk: a lambda without parameters, its code object, its name, the data that its maker's names hold -/
structure Th where
  f : Addr
  c : Addr
  q : Str
  ds : List (Option Fv)
  σ : L2.St
/-- what is neither data nor a cell: an object of the heap cell, a caught error, a def of the text, a dict from texts to such, a thunk -/
inductive Ob where
  | ob (j : Nat)
  | th (t : Th)
  | er (e : Er)
  | fn (x : Str)
  | fns (t : List (Str × Str))
  | tp (ds : List PyData)
/-- what a local name holds: data (never changed), a cell's number, the script, another thing -/
inductive Vl where
  | d (x : PyData)
  | c (i : Nat)
  | s (ns : List Int)
  | o (x : Ob)
/-- what a cell holds -/
inductive Cl where
  | l (xs : List PyData)
  | m (kvs : List (PyData × PyData))
/-- an object that changes: an instance of the class cls, a list -/
inductive Ho where
  | ins (cls : Str) (fs : List (Str × Fv))
  | lst (xs : List Fv)
/-- the places of the cells (that of the heap cell, 0, does not matter), and those of the heap cell's objects -/
structure Mu where
  l : List Addr
  η : List Addr
instance : Membership Addr Mu := ⟨fun μ a => a ∈ μ.l.tail ∨ a ∈ μ.η⟩
abbrev Mu.push (μ : Mu) (a : Addr) : Mu := ⟨μ.l ++ [a], μ.η⟩
abbrev Mu.obj (μ : Mu) (a : Addr) : Mu := ⟨μ.l, μ.η ++ [a]⟩
abbrev Mu.take (μ : Mu) (n : Nat) : Mu := ⟨μ.l.take n, μ.η⟩
theorem Mu.mem_l {μ : Mu} {i : Nat} {a : Addr} (h : μ.l[i]? = some a) (hi : i ≠ 0) : a ∈ μ := by
  refine .inl ?_
  cases i with
  | zero => exact absurd rfl hi
  | succ i => exact List.mem_of_getElem? (i := i) (by rw [List.getElem?_tail]; exact h)
theorem Mu.mem_η {μ : Mu} {j : Nat} {a : Addr} (h : μ.η[j]? = some a) : a ∈ μ := .inr (List.mem_of_getElem? h)
/-- what an expression gives: data, a cell, or a new object that nobody else holds -/
inductive Rv where
  | d (x : PyData)
  | c (i : Nat)
  | s (ns : List Int)
  | n (o : Cl)
  | o (x : Ob)
abbrev Sto := List Cl
inductive Res (α : Type) where
  | ok (a : α) (s : Sto)
  | er (e : Er) (s : Sto)
  | no
abbrev En := List (Option Vl)
abbrev Ev := En → Sto → Res Rv
@[reducible] def Res.bind {α β : Type} (r : Res α) (f : α → Sto → Res β) : Res β :=
  match r with
  | .ok a s => f a s
  | .er e s => .er e s
  | .no => .no
/-! ### data in the abstract heap -/
def kD : Key → PyData
  | .inl i => .int i
  | .inr x => .str x
/-- a dict's object whose keys are tuples, by its entries -/
def dgE (w : World) (x : NestedKey × Addr × Value) : DictEntry := ⟨x.1.hash w, .ref x.2.1, x.2.2⟩
def DgPr (e : NestedKey × Addr × V) (x : NestedKey × Addr × Value) : Prop := e.1 = x.1 ∧ e.2.1 = x.2.1 ∧ RelV e.2.2 x.2.2
def dgO (w : World) (r : Obj) (a : Addr) (es : List (NestedKey × Addr × V)) : HO := .ext fun h => es.length ≤ sizeLine ∧ (a == sysModules) = false ∧ ∃ xs o ar ep, Paired DgPr es xs ∧ (h.get? a = some o ∧ o = r) ∧ o.ExactDict ∧ o.data = .dict ar ep ∧ ar.toList = xs.map (dgE w)
mutual
/-- a key: an int, a text, None, a tuple of such -/
def keyN : PyData → Option NestedKey
  | .none => some .none
  | .int i => some (.num i)
  | .str x => some (.text x)
  | .tuple xs => match keysN xs with
    | some ks => some (.tup ks)
    | none => none
  | _ => none
def keysN : List PyData → Option (List NestedKey)
  | [] => some []
  | d :: ds => match keyN d, keysN ds with
    | some k, some ks => some (k :: ks)
    | _, _ => none
end
def erO (a : Addr) (cls : Value) (dd : Option Addr) : HO := .ext fun h => ∃ oe vs, h.get? a = some oe ∧ Zc cls dd oe ∧ oe.data = .fields vs
mutual
inductive Dq (K : Kw) (F : Hp) : V → PyData → Prop
  | non : Dq K F .non .none
  | bl (b : Bool) : Dq K F (.bl b) (.bool b)
  | int (i : Int) : Dq K F (.int i) (.int i)
  | str (x : Str) : Dq K F (.str x) (.str x)
  | lst {a : Addr} {xs : List V} {ds : List PyData} : F a = some (.lst xs) → DqAll K F xs ds → Dq K F (.ref a) (.list ds)
  | tup {a : Addr} {xs : List V} {ds : List PyData} : Rd F a (.tup xs) → DqAll K F xs ds → Dq K F (.ref a) (.tuple ds)
  | dic {a : Addr} {ws : List (Key × V)} {kvs : List (PyData × PyData)} : F a = some (.dK ws) → DqKv K F ws kvs → Dq K F (.ref a) (.dict kvs)
  | dig {a : Addr} {r : Obj} {es : List (NestedKey × Addr × V)} {kvs : List (PyData × PyData)} : F a = some (dgO K.w r a es) → DqG K F es kvs → (es.map (·.1)).Nodup → es ≠ [] → Dq K F (.ref a) (.dict kvs)
  | ins {a dx : Addr} {x : Str} {fs : List (Str × V)} {kvs : List (PyData × PyData)} : F a = some (.ins (He.ga K x) dx fs) → F dx = some (.own a) → DqF K F fs kvs → Dq K F (.ref a) (.dict ((.list [], .str x) :: kvs))
  | exn0 {a : Addr} {x : Str} : F a = some (erO a (.ref (He.ga K x)) none) → Dq K F (.ref a) (.dict [(.list [], .str x), (.none, .none)])
  | exn {a dx : Addr} {x f : Str} {v : V} {d : PyData} : F a = some (erO a (.ref (He.ga K x)) (some dx)) → F dx = some (.xd [(f, v)]) → Dq K F v d → Dq K F (.ref a) (.dict [(.list [], .str x), (.none, .none), (.str f, d)])
inductive DqAll (K : Kw) (F : Hp) : List V → List PyData → Prop
  | nil : DqAll K F [] []
  | cons {v : V} {vs : List V} {d : PyData} {ds : List PyData} : Dq K F v d → DqAll K F vs ds → DqAll K F (v :: vs) (d :: ds)
inductive DqKv (K : Kw) (F : Hp) : List (Key × V) → List (PyData × PyData) → Prop
  | nil : DqKv K F [] []
  | cons {k : Key} {v : V} {ws : List (Key × V)} {d : PyData} {kvs : List (PyData × PyData)} : Dq K F v d → DqKv K F ws kvs → DqKv K F ((k, v) :: ws) ((kD k, d) :: kvs)
/-- keys that are tuples -/
inductive DqG (K : Kw) (F : Hp) : List (NestedKey × Addr × V) → List (PyData × PyData) → Prop
  | nil : DqG K F [] []
  | cons {k : NestedKey} {b : Addr} {v : V} {es : List (NestedKey × Addr × V)} {kd d : PyData} {kvs : List (PyData × PyData)} : Dq K F (.ref b) kd → keyN kd = some k → k.depth ≤ 8 → Dq K F v d → DqG K F es kvs → DqG K F ((k, b, v) :: es) ((kd, d) :: kvs)
/-- the fields of an instance -/
inductive DqF (K : Kw) (F : Hp) : List (Str × V) → List (PyData × PyData) → Prop
  | nil : DqF K F [] []
  | cons {x : Str} {v : V} {fs : List (Str × V)} {d : PyData} {kvs : List (PyData × PyData)} : Dq K F v d → DqF K F fs kvs → DqF K F ((x, v) :: fs) ((.str x, d) :: kvs)
end
section
variable {K : Kw} {F F' : Hp}
theorem same_rd {a : Addr} {u : HO} (e : Same F F') (h : Rd F a u) : Rd F' a u := by
  rcases h with h | ⟨o, h⟩
  · exact .inl (e _ _ h)
  · exact .inr ⟨o, e _ _ h⟩
theorem SqT.rd {KK : PySem.W.Frag} {H : Hp} {a : Addr} {xs : List V} (e : Same F H) (h : Rd F a (.tup xs)) : SqT KK H a xs := .inl (same_rd e h)
mutual
theorem Dq.same (e : Same F F') : ∀ {v : V} {d : PyData}, Dq K F v d → Dq K F' v d
  | _, _, .non => .non
  | _, _, .bl b => .bl b
  | _, _, .int i => .int i
  | _, _, .str x => .str x
  | _, _, .lst h r => .lst (e _ _ h) (DqAll.same e r)
  | _, _, .tup h r => .tup (same_rd e h) (DqAll.same e r)
  | _, _, .dic h r => .dic (e _ _ h) (DqKv.same e r)
  | _, _, .dig h r n z => .dig (e _ _ h) (DqG.same e r) n z
  | _, _, .ins h g r => .ins (e _ _ h) (e _ _ g) (DqF.same e r)
  | _, _, .exn0 h => .exn0 (e _ _ h)
  | _, _, .exn h g r => .exn (e _ _ h) (e _ _ g) (Dq.same e r)
theorem DqAll.same (e : Same F F') : ∀ {vs : List V} {ds : List PyData}, DqAll K F vs ds → DqAll K F' vs ds
  | _, _, .nil => .nil
  | _, _, .cons h r => .cons (Dq.same e h) (DqAll.same e r)
theorem DqKv.same (e : Same F F') : ∀ {vs : List (Key × V)} {ds : List (PyData × PyData)}, DqKv K F vs ds → DqKv K F' vs ds
  | _, _, .nil => .nil
  | _, _, .cons h r => .cons (Dq.same e h) (DqKv.same e r)
theorem DqG.same (e : Same F F') : ∀ {vs : List (NestedKey × Addr × V)} {ds : List (PyData × PyData)}, DqG K F vs ds → DqG K F' vs ds
  | _, _, .nil => .nil
  | _, _, .cons h k l g r => .cons (Dq.same e h) k l (Dq.same e g) (DqG.same e r)
theorem DqF.same (e : Same F F') : ∀ {vs : List (Str × V)} {ds : List (PyData × PyData)}, DqF K F vs ds → DqF K F' vs ds
  | _, _, .nil => .nil
  | _, _, .cons h r => .cons (Dq.same e h) (DqF.same e r)
end
theorem DqAll.length : ∀ {vs : List V} {ds : List PyData}, DqAll K F vs ds → vs.length = ds.length
  | _, _, .nil => rfl
  | _, _, .cons _ r => by rw [List.length_cons, List.length_cons, r.length]
theorem DqAll.get : ∀ {vs : List V} {ds : List PyData} {i : Nat} {d : PyData}, DqAll K F vs ds → ds[i]? = some d → ∃ v, vs[i]? = some v ∧ Dq K F v d
  | _, _, _, _, .nil, e => by simp at e
  | _, _, 0, _, .cons h _, e => by simp at e; subst e; exact ⟨_, rfl, h⟩
  | _, _, i + 1, _, .cons _ r, e => by
    obtain ⟨v, h1, h2⟩ := DqAll.get (i := i) r (by simpa using e)
    exact ⟨v, by simpa using h1, h2⟩
theorem DqAll.app : ∀ {vs ws : List V} {ds es : List PyData}, DqAll K F vs ds → DqAll K F ws es → DqAll K F (vs ++ ws) (ds ++ es)
  | _, _, _, _, .nil, h => h
  | _, _, _, _, .cons h r, h' => .cons h (DqAll.app r h')
theorem DqAll.set {x : V} {d : PyData} (hx : Dq K F x d) : ∀ {vs : List V} {ds : List PyData} (i : Nat), DqAll K F vs ds → DqAll K F (vs.set i x) (ds.set i d)
  | _, _, _, .nil => .nil
  | _, _, 0, .cons _ r => .cons hx r
  | _, _, i + 1, .cons h r => .cons h (DqAll.set hx i r)
theorem DqAll.take : ∀ {vs : List V} {ds : List PyData} (n : Nat), DqAll K F vs ds → DqAll K F (vs.take n) (ds.take n)
  | _, _, 0, _ => .nil
  | _, _, _ + 1, .nil => .nil
  | _, _, n + 1, .cons h r => .cons h (DqAll.take n r)
theorem DqAll.drop : ∀ {vs : List V} {ds : List PyData} (n : Nat), DqAll K F vs ds → DqAll K F (vs.drop n) (ds.drop n)
  | _, _, 0, h => h
  | _, _, _ + 1, .nil => .nil
  | _, _, n + 1, .cons _ r => DqAll.drop n r
end
/-! ### cells, values, environments -/
/-- a dict: its keys ints and texts, or tuples -/
def DcOk (K : Kw) (F : Hp) (a : Addr) (kvs : List (PyData × PyData)) (o : HO) : Prop :=
  (∃ ws, o = .dK ws ∧ DqKv K F ws kvs) ∨ ∃ es, (∃ r, o = dgO K.w r a es) ∧ DqG K F es kvs ∧ (es.map (·.1)).Nodup ∧ es ≠ []
theorem DcOk.same {K : Kw} {F F' : Hp} {a : Addr} {kvs : List (PyData × PyData)} {o : HO} (e : Same F F') (h : DcOk K F a kvs o) : DcOk K F' a kvs o := by
  rcases h with ⟨ws, h1, h2⟩ | ⟨es, h1, h2, h3, h4⟩
  · exact .inl ⟨ws, h1, h2.same e⟩
  · exact .inr ⟨es, h1, h2.same e, h3, h4⟩
theorem DcOk.dq {K : Kw} {F : Hp} {a : Addr} {kvs : List (PyData × PyData)} {o : HO} (h : DcOk K F a kvs o) (e : F a = some o) : Dq K F (.ref a) (.dict kvs) := by
  rcases h with ⟨ws, h1, h2⟩ | ⟨es, h1, h2, h3, h4⟩
  · subst h1; exact .dic e h2
  · obtain ⟨r, h1⟩ := h1; subst h1; exact .dig e h2 h3 h4
def ClOk (K : Kw) (F : Hp) (a : Addr) : Cl → HO → Prop
  | .l ds, o => ∃ xs, o = .lst xs ∧ DqAll K F xs ds
  | .m kvs, o => DcOk K F a kvs o
/-- what stands in the place of a cell that has become data (no dict has such a key) -/
def gone : Cl := .m [(.list [], .none)]
/-- where a def stands: "f", or "C.m" for a method -/
def dfn (x : Str) : Str × Option Str := match x.cps.toList.span (fun c => c != 46) with
  | (_, []) => (x, none)
  | (a, _ :: b) => (⟨a.toArray⟩, some ⟨b.toArray⟩)
/-- the table of code objects of the def x, each of the name q -/
def tabC (x q : Str) : Cl := .m [(.list [], .tuple [.str x, .str q])]
def isGone : Cl → Bool
  | .m ((.list [], .none) :: _) => true
  | .m [(.list [], .tuple _)] => true
  | _ => false
def isDead : Cl → Bool
  | .m ((.list [], .none) :: _) => true
  | _ => false
theorem notDead {c : Cl} (h : isGone c = false) : isDead c = false := by
  unfold isGone at h
  split at h
  · cases h
  · cases h
  · rename_i h1 h2
    unfold isDead
    split
    · exact absurd rfl (h1 _)
    · rfl
def TabW (K : Kw) (F : Hp) (a : Addr) (c : Cl) (o : HO) : Prop := ∀ x q, c = tabC x q → (He.cT K.K (dfn x)).2 = a ∧ ∃ ps : Array Value, o = .tbl ps ∧ TriplesOk ps.toList ∧ ∀ (pos : Pos) (cv : Value), codeAmong pos ps.toList = some cv → ∃ c', cv = .ref c' ∧ F c' = some (LamX.CodeO c' q)
theorem TabW.same {K : Kw} {F F' : Hp} {a : Addr} {c : Cl} {o : HO} (e : Same F F') (h : TabW K F a c o) : TabW K F' a c o := fun x q z => by
  obtain ⟨h1, ps, h2, h3, h4⟩ := h x q z
  refine ⟨h1, ps, h2, h3, fun pos cv hc => ?_⟩
  obtain ⟨c', k1, k2⟩ := h4 pos cv hc
  exact ⟨c', k1, e _ _ k2⟩
def ClW (K : Kw) (F : Hp) (a : Addr) (c : Cl) (o : HO) : Prop := (isGone c = true ∧ TabW K F a c o) ∨ ClOk K F a c o
/-! ### the heap cell: the objects that change -/
def encV : Fv → PyData
  | .d x => .tuple [x]
  | .ob j => .int j
def encF (p : Str × Fv) : PyData := .tuple [.str p.1, encV p.2]
def encO : Ho → PyData
  | .ins cls fs => .tuple [.str cls, .list (fs.map encF)]
  | .lst xs => .list (xs.map encV)
def heapC (objs : List Ho) : Cl := .m [(.list [], .none), (.list (objs.map encO), .none)]
def FvOk (K : Kw) (F : Hp) (η : List Addr) : Fv → V → Prop
  | .d x, v => Dq K F v x
  | .ob j, v => ∃ a, η[j]? = some a ∧ v = .ref a
inductive FvAll (K : Kw) (F : Hp) (η : List Addr) : List Fv → List V → Prop
  | nil : FvAll K F η [] []
  | cons {x : Fv} {v : V} {xs : List Fv} {vs : List V} : FvOk K F η x v → FvAll K F η xs vs → FvAll K F η (x :: xs) (v :: vs)
inductive FlOk (K : Kw) (F : Hp) (η : List Addr) : List (Str × Fv) → List (Str × V) → Prop
  | nil : FlOk K F η [] []
  | cons {f : Str} {x : Fv} {v : V} {xs : List (Str × Fv)} {vs : List (Str × V)} : FvOk K F η x v → FlOk K F η xs vs → FlOk K F η ((f, x) :: xs) ((f, v) :: vs)
def HoOk (K : Kw) (F : Hp) (η : List Addr) (a : Addr) : Ho → HO → Prop
  | .ins cls fs, o => ∃ dx us, o = .ins (He.ga K cls) dx us ∧ F dx = some (.own a) ∧ FlOk K F η fs us
  | .lst xs, o => ∃ us, o = .lst us ∧ FvAll K F η xs us
section
variable {K : Kw} {F F' : Hp} {η : List Addr}
theorem FvOk.later {x : Fv} {v : V} (e : Same F F') (r : List Addr) (h : FvOk K F η x v) : FvOk K F' (η ++ r) x v := by
  cases x with
  | d x => exact Dq.same e h
  | ob j =>
    obtain ⟨a, h1, h2⟩ := h
    exact ⟨a, by rw [List.getElem?_append_left (List.getElem?_eq_some_iff.mp h1).1]; exact h1, h2⟩
theorem FvAll.later (e : Same F F') (r : List Addr) : ∀ {xs : List Fv} {vs : List V}, FvAll K F η xs vs → FvAll K F' (η ++ r) xs vs
  | _, _, .nil => .nil
  | _, _, .cons h t => .cons (h.later e r) (FvAll.later e r t)
theorem FlOk.later (e : Same F F') (r : List Addr) : ∀ {xs : List (Str × Fv)} {vs : List (Str × V)}, FlOk K F η xs vs → FlOk K F' (η ++ r) xs vs
  | _, _, .nil => .nil
  | _, _, .cons h t => .cons (h.later e r) (FlOk.later e r t)
theorem HoOk.later {a : Addr} {x : Ho} {o : HO} (e : Same F F') (r : List Addr) (h : HoOk K F η a x o) : HoOk K F' (η ++ r) a x o := by
  cases x with
  | ins cls fs => obtain ⟨dx, us, h1, h2, h3⟩ := h; exact ⟨dx, us, h1, e _ _ h2, h3.later e r⟩
  | lst xs => obtain ⟨us, h1, h2⟩ := h; exact ⟨us, h1, h2.later e r⟩
theorem HoOk.same {a : Addr} {x : Ho} {o : HO} (e : Same F F') (h : HoOk K F η a x o) : HoOk K F' η a x o := by
  have := h.later e []
  rwa [List.append_nil] at this
end
/-- the dict of an error, by its one field -/
def ErD (K : Kw) (F : Hp) : Option (Str × PyData) → Option Addr → Prop
  | none, dd => dd = none
  | some (f, x), dd => ∃ a v, dd = some a ∧ F a = some (.xd [(f, v)]) ∧ Dq K F v x
def ObOk (K : Kw) (F : Hp) (η : List Addr) : Ob → V → Prop
  | .ob j, v => ∃ a, η[j]? = some a ∧ v = .ref a
  | .th t, v => v = .ref t.f ∧ F t.c = some (LamX.CodeO t.c t.q) ∧ t.ds.length = t.σ.length ∧ ∀ (i : Nat) (d : Fv), t.ds[i]? = some (some d) → ∃ u, t.σ[i]? = some (some u) ∧ FvOk K F η d u
  | .er e, v => ∃ a dd, v = .ref a ∧ F a = some (erO a (.ref (He.ga K e.cls)) dd) ∧ ErD K F e.arg dd
  | .fn x, v => v = .ref (He.ga K x)
  | .fns t, v => ∃ a, v = .ref a ∧ F a = some (.dK (t.map fun p => (.inr p.1, .ref (He.ga K p.2))))
  | .tp ds, v => ∃ a xs o, v = .ref a ∧ F a = some (.frz o (.tup xs)) ∧ o.dict = none ∧ DqAll K F xs ds
theorem ErD.same {K : Kw} {F F' : Hp} (e : Same F F') : ∀ {x : Option (Str × PyData)} {dd : Option Addr}, ErD K F x dd → ErD K F' x dd
  | none, _, h => h
  | some (f, x), _, ⟨a, v, h1, h2, h3⟩ => ⟨a, v, h1, e _ _ h2, Dq.same e h3⟩
theorem ObOk.same {K : Kw} {F F' : Hp} {η : List Addr} (r : List Addr) (e : Same F F') : ∀ {x : Ob} {v : V}, ObOk K F η x v → ObOk K F' (η ++ r) x v
  | .ob _, _, ⟨a, h1, h2⟩ => ⟨a, by rw [List.getElem?_append_left (List.getElem?_eq_some_iff.mp h1).1]; exact h1, h2⟩
  | .th _, _, ⟨h1, h2, h3, h4⟩ => ⟨h1, e _ _ h2, h3, fun i d q => let ⟨u, k1, k2⟩ := h4 i d q; ⟨u, k1, k2.later e r⟩⟩
  | .er _, _, ⟨a, dd, h1, h2, h3⟩ => ⟨a, dd, h1, e _ _ h2, h3.same e⟩
  | .fn _, _, h => h
  | .fns _, _, ⟨a, h1, h2⟩ => ⟨a, h1, e _ _ h2⟩
  | .tp _, _, ⟨a, xs, o, h1, h2, h3, h4⟩ => ⟨a, xs, o, h1, e _ _ h2, h3, DqAll.same e h4⟩
def Vok (K : Kw) (F : Hp) (μ : Mu) : Vl → V → Prop
  | .d x, v => Dq K F v x
  | .c i, v => ∃ a, μ.l[i]? = some a ∧ v = .ref a
  | .s ns, v => ∃ a, v = .ref a ∧ SqL K F a (ns.map V.int)
  | .o x, v => ObOk K F μ.η x v
def Rok (K : Kw) (F : Hp) (μ : Mu) (H : Hp) : Rv → V → Prop
  | .d x, v => Dq K F v x
  | .c i, v => ∃ a, μ.l[i]? = some a ∧ v = .ref a
  | .s ns, v => ∃ a, v = .ref a ∧ SqL K F a (ns.map V.int)
  | .o x, v => ObOk K F μ.η x v
  | .n c, v => ∃ a o, v = .ref a ∧ H a = some o ∧ ClOk K F a c o ∧ F a = none ∧ a ∉ μ
def Eok (K : Kw) (F : Hp) (μ : Mu) (ρ : En) (σ : St) : Prop :=
  ρ.length = σ.length ∧ ∀ (i : Nat) (x : Vl), ρ[i]? = some (some x) → ∃ v, σ[i]? = some (some v) ∧ Vok K F μ x v
structure SR (K : Kw) (μ : Mu) (F H : Hp) (st : Sto) : Prop where
  nd : (μ.l.tail ++ μ.η).Nodup
  len : μ.l.length = st.length
  sep : ∀ (i : Nat) (a : Addr) (c : Cl), μ.l[i]? = some a → st[i]? = some c → isDead c = false → F a = none
  sub : Same F H
  cell0 : ∀ (i : Nat) (c : Cl), i ≠ 0 → st[i]? = some c → ∃ a o, μ.l[i]? = some a ∧ H a = some o ∧ ClW K F a c o
  obs : ∃ objs, st[0]? = some (heapC objs) ∧ objs.length = μ.η.length ∧ ∀ (j : Nat) (x : Ho), objs[j]? = some x → ∃ a o, μ.η[j]? = some a ∧ F a = none ∧ H a = some o ∧ HoOk K F μ.η a x o
/-- from one state to a later one -/
structure Ext (μ : Mu) (F H : Hp) (μ' : Mu) (F' H' : Hp) : Prop where
  same : Same F F'
  pre : ∃ r, μ'.l = μ.l ++ r
  preη : ∃ r, μ'.η = μ.η ++ r
  fr : ∀ b o, H b = some o → b ∉ μ → H' b = some o
  dom : ∀ b, H' b = none → H b = none
  nF : ∀ a o, F' a = some o → F a = some o ∨ H a = none ∨ a ∈ μ
  nC : ∀ a, a ∈ μ' → a ∈ μ ∨ H a = none
section
variable {K : Kw} {μ μ1 μ2 : Mu} {F H F1 H1 F2 H2 : Hp} {st : Sto}
theorem Ext.refl : Ext μ F H μ F H := ⟨Same.refl F, ⟨[], by simp⟩, ⟨[], by simp⟩, fun _ _ h _ => h, fun _ h => h, fun _ _ h => .inl h, fun _ h => .inl h⟩
theorem Ext.trans (a : Ext μ F H μ1 F1 H1) (b : Ext μ1 F1 H1 μ2 F2 H2) : Ext μ F H μ2 F2 H2 := by
  refine ⟨a.same.trans b.same, ?_, ?_, fun c o h n => ?_, fun c h => a.dom c (b.dom c h), fun c o h => ?_, fun c h => ?_⟩
  · obtain ⟨r, e⟩ := a.pre
    obtain ⟨r', e'⟩ := b.pre
    exact ⟨r ++ r', by rw [e', e, List.append_assoc]⟩
  · obtain ⟨r, e⟩ := a.preη
    obtain ⟨r', e'⟩ := b.preη
    exact ⟨r ++ r', by rw [e', e, List.append_assoc]⟩
  · refine b.fr c o (a.fr c o h n) fun z => ?_
    rcases a.nC c z with z | z
    · exact n z
    · rw [z] at h; cases h
  · rcases b.nF c o h with z | z | z
    · exact a.nF c o z
    · exact .inr (.inl (a.dom c z))
    · rcases a.nC c z with z | z
      · exact .inr (.inr z)
      · exact .inr (.inl z)
  · rcases b.nC c h with z | z
    · exact a.nC c z
    · exact .inr (a.dom c z)
theorem Ext.get (a : Ext μ F H μ1 F1 H1) {i : Nat} {x : Addr} (h : μ.l[i]? = some x) : μ1.l[i]? = some x := by
  obtain ⟨r, e⟩ := a.pre
  rw [e, List.getElem?_append_left (List.getElem?_eq_some_iff.mp h).1]
  exact h
theorem ObOk.ext (a : Ext μ F H μ1 F1 H1) {x : Ob} {v : V} (h : ObOk K F μ.η x v) : ObOk K F1 μ1.η x v := by
  obtain ⟨r, e⟩ := a.preη
  rw [e]
  exact ObOk.same r a.same h
theorem FvOk.ext (a : Ext μ F H μ1 F1 H1) {x : Fv} {v : V} (h : FvOk K F μ.η x v) : FvOk K F1 μ1.η x v := by
  obtain ⟨r, e⟩ := a.preη
  rw [e]
  exact h.later a.same r
theorem Vok.ext (a : Ext μ F H μ1 F1 H1) {x : Vl} {v : V} (h : Vok K F μ x v) : Vok K F1 μ1 x v := by
  cases x with
  | d x => exact Dq.same a.same h
  | c i => obtain ⟨p, h1, h2⟩ := h; exact ⟨p, a.get h1, h2⟩
  | s ns => obtain ⟨p, h1, h2⟩ := h; exact ⟨p, h1, a.same.seq h2⟩
  | o x => exact ObOk.ext a h
theorem Eok.ext (a : Ext μ F H μ1 F1 H1) {ρ : En} {σ : St} (h : Eok K F μ ρ σ) : Eok K F1 μ1 ρ σ :=
  ⟨h.1, fun i x e => let ⟨v, h1, h2⟩ := h.2 i x e; ⟨v, h1, h2.ext a⟩⟩
theorem DqAll.ext (a : Ext μ F H μ1 F1 H1) {xs : List V} {ds : List PyData} (h : DqAll K F xs ds) : DqAll K F1 xs ds := h.same a.same
theorem ClOk.same (e : Same F F1) {a : Addr} {c : Cl} {o : HO} (h : ClOk K F a c o) : ClOk K F1 a c o := by
  cases c with
  | l ds => obtain ⟨xs, h1, h2⟩ := h; exact ⟨xs, h1, h2.same e⟩
  | m kvs => exact DcOk.same e h
theorem ClW.same (e : Same F F1) {a : Addr} {c : Cl} {o : HO} (h : ClW K F a c o) : ClW K F1 a c o := h.imp (fun h => ⟨h.1, h.2.same e⟩) fun h => h.same e
theorem SR.pos (s : SR K μ F H st) : 0 < st.length := by
  obtain ⟨objs, h, _⟩ := s.obs
  exact (List.getElem?_eq_some_iff.mp h).1
theorem SR.ne0 (s : SR K μ F H st) {i : Nat} {c : Cl} (h : st[i]? = some c) (hz : isGone c = false) : i ≠ 0 := fun e => by
  subst e
  obtain ⟨objs, h0, _⟩ := s.obs
  rw [h0] at h; cases h
  cases hz
theorem SR.mem (s : SR K μ F H st) {i : Nat} {c : Cl} {a : Addr} (hi : μ.l[i]? = some a) (h : st[i]? = some c) (hz : isGone c = false) : a ∈ μ := Mu.mem_l hi (s.ne0 h hz)
theorem SR.cell (s : SR K μ F H st) (i : Nat) (c : Cl) (h : st[i]? = some c) (hz : isGone c = false := by rfl) : ∃ a o, μ.l[i]? = some a ∧ H a = some o ∧ ClOk K F a c o := by
  obtain ⟨a, o, h1, h2, h3⟩ := s.cell0 i c (s.ne0 h hz) h
  rcases h3 with h3 | h3
  · rw [hz] at h3; cases h3.1
  · exact ⟨a, o, h1, h2, h3⟩
theorem Rok.ext (a : Ext μ F H μ1 F1 H1) {x : Rv} {v : V} (h : Rok K F μ H x v) : Rok K F1 μ1 H1 x v := by
  cases x with
  | d x => exact Dq.same a.same h
  | c i => obtain ⟨p, h1, h2⟩ := h; exact ⟨p, a.get h1, h2⟩
  | s ns => obtain ⟨p, h1, h2⟩ := h; exact ⟨p, h1, a.same.seq h2⟩
  | o x => exact ObOk.ext a h
  | n c =>
    obtain ⟨p, o, h1, h2, h3, h4, h5⟩ := h
    refine ⟨p, o, h1, a.fr p o h2 h5, h3.same a.same, ?_, fun z => ?_⟩
    · cases q : F1 p with
      | none => rfl
      | some u =>
        rcases a.nF p u q with z | z | z
        · rw [h4] at z; cases z
        · rw [h2] at z; cases z
        · exact absurd z h5
    · rcases a.nC p z with z | z
      · exact h5 z
      · rw [h2] at z; cases z
/-- each place has its own object -/
theorem SR.one (s : SR K μ F H st) {i j : Nat} {a : Addr} (hi : μ.l[i]? = some a) (hj : μ.l[j]? = some a) (i0 : i ≠ 0) (j0 : j ≠ 0) : i = j := by
  cases i with
  | zero => exact absurd rfl i0
  | succ i =>
    cases j with
    | zero => exact absurd rfl j0
    | succ j =>
      have nd := (List.nodup_append.mp s.nd).1
      rw [← List.getElem?_tail] at hi hj
      obtain ⟨l1, e1⟩ := List.getElem?_eq_some_iff.mp hi
      obtain ⟨l2, e2⟩ := List.getElem?_eq_some_iff.mp hj
      rw [(List.getElem_inj nd).mp (e1.trans e2.symm)]
theorem SR.apart (s : SR K μ F H st) {i j : Nat} {a b : Addr} (hi : μ.l[i]? = some a) (hj : μ.η[j]? = some b) (i0 : i ≠ 0) : a ≠ b := by
  cases i with
  | zero => exact absurd rfl i0
  | succ i =>
    rw [← List.getElem?_tail] at hi
    exact (List.nodup_append.mp s.nd).2.2 a (List.mem_of_getElem? hi) b (List.mem_of_getElem? hj)
theorem SR.dead (s : SR K μ F H st) {a : Addr} (h : H a = none) : F a = none ∧ a ∉ μ := by
  refine ⟨?_, fun z => ?_⟩
  · cases q : F a with
    | none => rfl
    | some o => rw [s.sub a o q] at h; cases h
  · rcases z with z | z
    · obtain ⟨i, hi, e⟩ := List.getElem_of_mem z
      have hl : i + 1 < st.length := by rw [← s.len]; rw [List.length_tail] at hi; omega
      obtain ⟨b, o, h1, h2, _⟩ := s.cell0 (i + 1) st[i + 1] (by omega) (by simp [hl])
      rw [← List.getElem?_tail, List.getElem?_eq_getElem hi, e] at h1
      cases h1
      rw [h] at h2; cases h2
    · obtain ⟨j, hj, e⟩ := List.getElem_of_mem z
      obtain ⟨objs, _, hl, hall⟩ := s.obs
      have hj' : j < objs.length := by rw [hl]; exact hj
      obtain ⟨b, o, h1, _, h2, _⟩ := hall j objs[j] (by simp [hj'])
      rw [List.getElem?_eq_getElem hj, e] at h1
      cases h1
      rw [h] at h2; cases h2
theorem SR.obs_kept {H' : Hp} (s : SR K μ F H st) (k : ∀ (j : Nat) (a : Addr), μ.η[j]? = some a → ∀ o, H a = some o → H' a = some o) :
    ∃ objs, st[0]? = some (heapC objs) ∧ objs.length = μ.η.length ∧ ∀ (j : Nat) (x : Ho), objs[j]? = some x → ∃ a o, μ.η[j]? = some a ∧ F a = none ∧ H' a = some o ∧ HoOk K F μ.η a x o := by
  obtain ⟨objs, h1, h2, h3⟩ := s.obs
  exact ⟨objs, h1, h2, fun j x e => let ⟨a, o, k1, k2, k3, k4⟩ := h3 j x e; ⟨a, o, k1, k2, k j a k1 o k3, k4⟩⟩
/-- a new object, tracked, held by nobody -/
theorem SR.newly (s : SR K μ F H st) {p : Addr} {o : HO} (hp : H p = none) : SR K μ F (upd H p o) st ∧ Ext μ F H μ F (upd H p o) := by
  have hd := s.dead hp
  have ne : ∀ b u, H b = some u → b ≠ p := fun b u h e => by subst e; rw [hp] at h; cases h
  refine ⟨⟨s.nd, s.len, s.sep, fun b u h => ?_, fun i c i0 h => ?_, s.obs_kept fun j a _ u h => by rw [upd_ne (ne a u h)]; exact h⟩, ⟨Same.refl F, ⟨[], by simp⟩, ⟨[], by simp⟩, fun b u h _ => ?_, fun b h => ?_, fun _ _ h => .inl h, fun _ h => .inl h⟩⟩
  · rw [upd_ne (ne b u (s.sub b u h))]; exact s.sub b u h
  · obtain ⟨a, u, h1, h2, h3⟩ := s.cell0 i c i0 h
    exact ⟨a, u, h1, by rw [upd_ne (ne a u h2)]; exact h2, h3⟩
  · rw [upd_ne (ne b u h)]; exact h
  · by_cases e : b = p
    · subst e; exact hp
    · rw [upd_ne e] at h; exact h
/-- a new object, held by nobody, becomes data -/
theorem SR.freeze {H0 : Hp} (s : SR K μ1 F1 H1 st) (x : Ext μ F H0 μ1 F1 H1) (s0 : Same F H0) {p : Addr} {o : HO} (h0 : H0 p = none) (hp : H1 p = some o) (hF : F1 p = none) (hm : p ∉ μ1) :
    SR K μ1 (upd F1 p o) H1 st ∧ Ext μ F H0 μ1 (upd F1 p o) H1 ∧ Same F1 (upd F1 p o) := by
  have sm : Same F1 (upd F1 p o) := fun b u h => by
    rw [upd_ne (fun e => by subst e; rw [hF] at h; cases h)]; exact h
  refine ⟨⟨s.nd, s.len, fun i a c h h2 h3 => ?_, fun b u h => ?_, fun i c i0 h => ?_, ?_⟩, ⟨x.same.trans sm, x.pre, x.preη, x.fr, x.dom, fun a u h => ?_, x.nC⟩, sm⟩
  · have i0 : i ≠ 0 := fun e => by
      subst e
      obtain ⟨objs, k, _⟩ := s.obs
      rw [k] at h2; cases h2; cases h3
    rw [upd_ne (fun e => by subst e; exact hm (Mu.mem_l h i0))]; exact s.sep i a c h h2 h3
  · by_cases e : b = p
    · subst e; rw [upd_same] at h; cases h; exact hp
    · rw [upd_ne e] at h; exact s.sub b u h
  · obtain ⟨a, u, h1, h2, h3⟩ := s.cell0 i c i0 h
    exact ⟨a, u, h1, h2, h3.same sm⟩
  · obtain ⟨objs, k1, k2, k3⟩ := s.obs
    refine ⟨objs, k1, k2, fun j y e => ?_⟩
    obtain ⟨a, u, q1, q2, q3, q4⟩ := k3 j y e
    exact ⟨a, u, q1, by rw [upd_ne (fun e => by subst e; exact hm (Mu.mem_η q1))]; exact q2, q3, q4.same sm⟩
  · by_cases e : a = p
    · subst e; exact .inr (.inl h0)
    · rw [upd_ne e] at h; exact x.nF a u h
/-- a new object, held by nobody, becomes a cell -/
theorem SR.celled {H0 : Hp} (s : SR K μ1 F1 H1 st) (x : Ext μ F H0 μ1 F1 H1) {p : Addr} {o : HO} {c : Cl} (h0 : H0 p = none) (hp : H1 p = some o) (hF : F1 p = none) (hm : p ∉ μ1) (hc : ClOk K F1 p c o) :
    SR K (μ1.push p) F1 H1 (st ++ [c]) ∧ Ext μ F H0 (μ1.push p) F1 H1 := by
  have hpos := s.pos
  have hne : μ1.l ≠ [] := fun e => by have := s.len; rw [e] at this; simp at this; omega
  have ht : (μ1.l ++ [p]).tail = μ1.l.tail ++ [p] := List.tail_append_of_ne_nil hne
  refine ⟨⟨?_, by simp [s.len], fun i a d h h2 h3 => ?_, s.sub, fun i d i0 h => ?_, ?_⟩, ⟨x.same, ?_, x.preη, x.fr, x.dom, x.nF, fun a h => ?_⟩⟩
  · show ((μ1.l ++ [p]).tail ++ μ1.η).Nodup
    obtain ⟨n1, n2, n3⟩ := List.nodup_append.mp s.nd
    rw [ht, List.nodup_append]
    refine ⟨?_, n2, fun a ha b hb e => ?_⟩
    · rw [List.nodup_append]
      refine ⟨n1, by simp, fun a ha b hb e => ?_⟩
      rw [List.mem_singleton] at hb
      subst hb; subst e
      exact hm (.inl ha)
    · subst e
      rcases List.mem_append.mp ha with ha | ha
      · exact n3 a ha a hb rfl
      · rw [List.mem_singleton.mp ha] at hb; exact hm (.inr hb)
  · have h : (μ1.l ++ [p])[i]? = some a := h
    by_cases hi : i < st.length
    · rw [List.getElem?_append_left (by rw [s.len]; exact hi)] at h
      rw [List.getElem?_append_left hi] at h2
      exact s.sep i a d h h2 h3
    · have e : i = st.length := by
        have := (List.getElem?_eq_some_iff.mp h2).1
        simp at this; omega
      subst e
      rw [← s.len] at h
      simp at h
      subst h
      exact hF
  · show ∃ a o, (μ1.l ++ [p])[i]? = some a ∧ _
    by_cases hi : i < st.length
    · rw [List.getElem?_append_left hi] at h
      obtain ⟨a, u, h1, h2, h3⟩ := s.cell0 i d i0 h
      exact ⟨a, u, by rw [List.getElem?_append_left (by rw [s.len]; exact hi)]; exact h1, h2, h3⟩
    · have e : i = st.length := by
        have := (List.getElem?_eq_some_iff.mp h).1
        simp at this; omega
      subst e
      simp at h
      subst h
      exact ⟨p, o, by rw [← s.len]; simp, hp, .inr hc⟩
  · obtain ⟨objs, k1, k2, k3⟩ := s.obs
    exact ⟨objs, by rw [List.getElem?_append_left hpos]; exact k1, k2, k3⟩
  · obtain ⟨r, e⟩ := x.pre
    exact ⟨r ++ [p], by show μ1.l ++ [p] = _; rw [e, List.append_assoc]⟩
  · rcases h with h | h
    · have h : a ∈ (μ1.l ++ [p]).tail := h
      rw [ht] at h
      rcases List.mem_append.mp h with h | h
      · exact x.nC a (.inl h)
      · rw [List.mem_singleton.mp h]; exact .inr h0
    · exact x.nC a (.inr h)
/-- a cell is written -/
theorem SR.write (s : SR K μ F H st) {i : Nat} {p : Addr} {o : HO} {c : Cl} (hi : μ.l[i]? = some p) (hc : ClOk K F p c o) {c0 : Cl} (h0 : st[i]? = some c0) (hz : isGone c0 = false := by rfl) : SR K μ F (upd H p o) (st.set i c) ∧ Ext μ F H μ F (upd H p o) := by
  have i0 := s.ne0 h0 hz
  have hm : p ∈ μ := s.mem hi h0 hz
  have hil : i < μ.l.length := (List.getElem?_eq_some_iff.mp hi).1
  have hF := s.sep i p c0 hi h0 (notDead hz)
  refine ⟨⟨s.nd, by simp [s.len], fun j a d h h2 h3 => ?_, fun b u h => ?_, fun j d j0 h => ?_, ?_⟩, ⟨Same.refl F, ⟨[], by simp⟩, ⟨[], by simp⟩, fun b u h n => ?_, fun b h => ?_, fun _ _ h => .inl h, fun _ h => .inl h⟩⟩
  · by_cases e : j = i
    · subst e
      rw [hi] at h; cases h
      exact hF
    · rw [List.getElem?_set_ne (Ne.symm e)] at h2
      exact s.sep j a d h h2 h3
  · rw [upd_ne (fun e => by subst e; rw [hF] at h; cases h)]; exact s.sub b u h
  · by_cases e : j = i
    · subst e
      rw [List.getElem?_set_self (by rw [← s.len]; exact hil)] at h
      cases h
      exact ⟨p, o, hi, upd_same, .inr hc⟩
    · rw [List.getElem?_set_ne (Ne.symm e)] at h
      obtain ⟨a, u, h1, h2, h3⟩ := s.cell0 j d j0 h
      refine ⟨a, u, h1, ?_, h3⟩
      rw [upd_ne (fun z => ?_)]; exact h2
      subst z
      exact e (s.one h1 hi j0 i0)
  · obtain ⟨objs, k1, k2, k3⟩ := s.obs
    refine ⟨objs, by rw [List.getElem?_set_ne i0]; exact k1, k2, fun j y e => ?_⟩
    obtain ⟨a, u, q1, q2, q3, q4⟩ := k3 j y e
    exact ⟨a, u, q1, q2, by rw [upd_ne (Ne.symm (s.apart hi q1 i0))]; exact q3, q4⟩
  · rw [upd_ne (fun z => by subst z; exact n hm)]; exact h
  · by_cases e : b = p
    · subst e; rw [upd_same] at h; cases h
    · rw [upd_ne e] at h; exact h
/-- the newest cells are forgotten -/
theorem SR.cut (s : SR K μ1 F1 H1 st) (x : Ext μ F H μ1 F1 H1) (n : Nat) (hn : μ.l.length = n) (hp : 0 < n) : SR K (μ1.take n) F1 H1 (st.take n) ∧ Ext μ F H (μ1.take n) F1 H1 ∧ μ.l = μ1.l.take n := by
  obtain ⟨r, e⟩ := x.pre
  have e2 : μ.l = μ1.l.take n := by rw [e, ← hn]; simp
  have hsub : ∀ a, a ∈ (μ1.l.take n).tail → a ∈ μ1.l.tail := fun a h => by
    obtain ⟨i, hi, q⟩ := List.getElem_of_mem h
    have q2 : (μ1.l.take n).tail[i]? = some a := by rw [List.getElem?_eq_getElem hi, q]
    rw [List.getElem?_tail, List.getElem?_take_of_lt (by rw [List.length_tail, List.length_take] at hi; omega), ← List.getElem?_tail] at q2
    exact List.mem_of_getElem? q2
  have nd : ((μ1.l.take n).tail ++ μ1.η).Nodup := by
    obtain ⟨n1, n2, n3⟩ := List.nodup_append.mp s.nd
    rw [List.nodup_append]
    refine ⟨?_, n2, fun a ha b hb => n3 a (hsub a ha) b hb⟩
    have hs : (μ1.l.take n).tail.Sublist μ1.l.tail := by
      cases μ1.l with
      | nil => simp
      | cons y ys =>
        cases n with
        | zero => omega
        | succ n => exact List.take_sublist n ys
    exact hs.nodup n1
  have hl := s.len
  have hl1 : μ1.l.length = μ.l.length + r.length := by rw [e, List.length_append]
  refine ⟨⟨nd, ?_, fun i a c h h2 h3 => ?_, s.sub, fun i c i0 h => ?_, ?_⟩, ⟨x.same, ⟨[], by rw [List.append_nil]; exact e2.symm⟩, x.preη, x.fr, x.dom, x.nF, fun a h => ?_⟩, e2⟩
  · show (μ1.l.take n).length = _
    rw [List.length_take, List.length_take]; omega
  · have h : (μ1.l.take n)[i]? = some a := h
    have hi : i < n := by
      have := (List.getElem?_eq_some_iff.mp h2).1
      rw [List.length_take] at this
      omega
    rw [List.getElem?_take_of_lt hi] at h2
    rw [List.getElem?_take_of_lt hi] at h
    exact s.sep i a c h h2 h3
  · have hi : i < n := by
      have := (List.getElem?_eq_some_iff.mp h).1
      rw [List.length_take] at this
      omega
    rw [List.getElem?_take_of_lt hi] at h
    obtain ⟨a, u, h1, h2, h3⟩ := s.cell0 i c i0 h
    exact ⟨a, u, by show (μ1.l.take n)[i]? = _; rw [List.getElem?_take_of_lt hi]; exact h1, h2, h3⟩
  · obtain ⟨objs, k1, k2, k3⟩ := s.obs
    exact ⟨objs, by rw [List.getElem?_take_of_lt hp]; exact k1, k2, k3⟩
  · rcases h with h | h
    · exact x.nC a (.inl (hsub a h))
    · exact x.nC a (.inr h)
end
/-! ### what a meaning wants -/
structure Out (K : Kw) (μ : Mu) (F H : Hp) (st : Sto) (r : Rv) (v : V) (μ' : Mu) (F' H' : Hp) : Prop where
  ext : Ext μ F H μ' F' H'
  sr : SR K μ' F' H' st
  rok : Rok K F' μ' H' r v
  new : ∀ c, r = .n c → ∃ a, v = .ref a ∧ H a = none
/-- an error of the program's own as the hand layer tells it -/
def ErOk (K : Kw) (mg : Str → Option Value) (F H : Hp) (e : Er) (cls : Value) (dd : Option Addr) : Prop :=
  cls = .ref (He.ga K e.cls) ∧ ErD K F e.arg dd
/-- how a thing that came may end; what is wished of an error may hang on the slots at its raising -/
structure Cn where
  K : Kw
  mg : Str → Option Value
  W : WX
  σ : St
abbrev Cn.E (C : Cn) : XK := fun cls d H => C.W cls d C.σ H
abbrev Cn.at (C : Cn) (σ : St) : Cn := { C with σ := σ }
abbrev Cn.ofE (K : Kw) (mg : Str → Option Value) (E : XK) : Cn := ⟨K, mg, fun cls d _ H => E cls d H, []⟩
/-- the slots do not matter -/
def Cn.Flat (C : Cn) : Prop := ∀ cls d σ σ' H, C.W cls d σ H → C.W cls d σ' H
def Erw (C : Cn) (μ : Mu) (F H : Hp) (e : Er) (st : Sto) : Prop := ∀ cls dd μ' F' H', Ext μ F H μ' F' H' → SR C.K μ' F' H' st → ErOk C.K C.mg F' H' e cls dd → C.E cls dd H'
def Post {β : Type} (C : Cn) (G : β → Sto → Mu → Hp → Hp → Prop) (μ : Mu) (F H : Hp) : Res β → Prop
  | .ok r st => G r st μ F H
  | .er e st => Erw C μ F H e st
  | .no => False
abbrev gE (C : Cn) (Q : VK) : Rv → Sto → Mu → Hp → Hp → Prop := fun r st μ F H => ∀ v μ' F' H', Out C.K μ F H st r v μ' F' H' → Q v H'
abbrev gV (C : Cn) (Q : VK) : Vl → Sto → Mu → Hp → Hp → Prop := fun r st μ F H => ∀ v μ' F' H', Ext μ F H μ' F' H' → SR C.K μ' F' H' st → Vok C.K F' μ' r v → Q v H'
abbrev gB (C : Cn) (Q : Bool → Hp → Prop) : Bool → Sto → Mu → Hp → Hp → Prop := fun b st μ F H => ∀ μ' F' H', Ext μ F H μ' F' H' → SR C.K μ' F' H' st → Q b H'
abbrev PostE (C : Cn) (Q : VK) := Post C (gE C Q)
abbrev PostV (C : Cn) (Q : VK) := Post C (gV C Q)
abbrev PostB (C : Cn) (Q : Bool → Hp → Prop) := Post C (gB C Q)
inductive VokAll (K : Kw) (F : Hp) (μ : Mu) : List Vl → List V → Prop
  | nil : VokAll K F μ [] []
  | cons {x : Vl} {v : V} {xs : List Vl} {vs : List V} : Vok K F μ x v → VokAll K F μ xs vs → VokAll K F μ (x :: xs) (v :: vs)
abbrev gA (C : Cn) (Q : List V → Hp → Prop) : List Vl → Sto → Mu → Hp → Hp → Prop := fun xs st μ F H => ∀ vs μ' F' H', Ext μ F H μ' F' H' → SR C.K μ' F' H' st → VokAll C.K F' μ' xs vs → Q vs H'
abbrev PostA (C : Cn) (Q : List V → Hp → Prop) := Post C (gA C Q)
def At (C : Cn) (σ : St) (H : Hp) (P : En → Sto → Mu → Hp → Prop) : Prop := ∃ ρ st μ F, Eok C.K F μ ρ σ ∧ SR C.K μ F H st ∧ P ρ st μ F
def tM (C : Cn) (m : Ev) : TE := fun σ H Q => At C σ H fun ρ st μ F => PostE (C.at σ) Q μ F H (m ρ st)
def tV (C : Cn) (m : En → Sto → Res Vl) : TE := fun σ H Q => At C σ H fun ρ st μ F => PostV (C.at σ) Q μ F H (m ρ st)
def tT (C : Cn) (m : En → Sto → Res Bool) : TT := fun σ H Q => At C σ H fun ρ st μ F => PostB (C.at σ) Q μ F H (m ρ st)
def tAs (C : Cn) (m : En → Sto → Res (List Vl)) : TA := fun σ H Q => At C σ H fun ρ st μ F => PostA (C.at σ) Q μ F H (m ρ st)
section
variable {C : Cn} {μ μ1 : Mu} {F H F1 H1 : Hp} {st : Sto}
theorem Erw.later {e : Er} (x : Ext μ F H μ1 F1 H1) (h : Erw C μ F H e st) : Erw C μ1 F1 H1 e st := fun cls dd μ' F' H' y s o => h cls dd μ' F' H' (x.trans y) s o
/-- what holds from a state holds from a later one -/
structure Lat {β : Type} (G : β → Sto → Mu → Hp → Hp → Prop) : Prop where
  it : ∀ {r st μ F H μ1 F1 H1}, Ext μ F H μ1 F1 H1 → G r st μ F H → G r st μ1 F1 H1
theorem gE_lat {Q : VK} : Lat (gE C Q) := ⟨fun x h v μ' F' H' o => h v μ' F' H' ⟨x.trans o.ext, o.sr, o.rok, fun c e => let ⟨a, h1, h2⟩ := o.new c e; ⟨a, h1, x.dom a h2⟩⟩⟩
theorem gB_lat {Q : Bool → Hp → Prop} : Lat (gB C Q) := ⟨fun x h μ' F' H' y s => h μ' F' H' (x.trans y) s⟩
theorem gA_lat {Q : List V → Hp → Prop} : Lat (gA C Q) := ⟨fun x h v μ' F' H' y s o => h v μ' F' H' (x.trans y) s o⟩
theorem Post.later {β : Type} {G : β → Sto → Mu → Hp → Hp → Prop} (g : Lat G) {r : Res β} (x : Ext μ F H μ1 F1 H1) (h : Post C G μ F H r) : Post C G μ1 F1 H1 r := by
  cases r with
  | ok r st => exact g.it x h
  | er e st => exact Erw.later x h
  | no => exact h
/-- one step, then the rest: what came first is data or a cell -/
theorem Post.bindV {β : Type} {G : β → Sto → Mu → Hp → Hp → Prop} (g : Lat G) {m : Res Vl} {k : Vl → Sto → Res β} {Q : VK} (h : Post C G μ F H (m.bind k))
    (hk : ∀ x s v μ1 F1 H1, Ext μ F H μ1 F1 H1 → SR C.K μ1 F1 H1 s → Vok C.K F1 μ1 x v → Post C G μ1 F1 H1 (k x s) → Q v H1) : PostV C Q μ F H m := by
  cases m with
  | ok x s => exact fun v μ1 F1 H1 e s1 o => hk x s v μ1 F1 H1 e s1 o (Post.later g e h)
  | er e s => exact h
  | no => exact h
theorem Post.bindB {β : Type} {G : β → Sto → Mu → Hp → Hp → Prop} (g : Lat G) {m : Res Bool} {k : Bool → Sto → Res β} {Q : Bool → Hp → Prop} (h : Post C G μ F H (m.bind k))
    (hk : ∀ x s μ1 F1 H1, Ext μ F H μ1 F1 H1 → SR C.K μ1 F1 H1 s → Post C G μ1 F1 H1 (k x s) → Q x H1) : PostB C Q μ F H m := by
  cases m with
  | ok x s => exact fun μ1 F1 H1 e s1 => hk x s μ1 F1 H1 e s1 (Post.later g e h)
  | er e s => exact h
  | no => exact h
theorem Post.bindA {β : Type} {G : β → Sto → Mu → Hp → Hp → Prop} (g : Lat G) {m : Res (List Vl)} {k : List Vl → Sto → Res β} {Q : List V → Hp → Prop} (h : Post C G μ F H (m.bind k))
    (hk : ∀ x s v μ1 F1 H1, Ext μ F H μ1 F1 H1 → SR C.K μ1 F1 H1 s → VokAll C.K F1 μ1 x v → Post C G μ1 F1 H1 (k x s) → Q v H1) : PostA C Q μ F H m := by
  cases m with
  | ok x s => exact fun v μ1 F1 H1 e s1 o => hk x s v μ1 F1 H1 e s1 o (Post.later g e h)
  | er e s => exact h
  | no => exact h
theorem VokAll.ext (a : Ext μ F H μ1 F1 H1) : ∀ {xs : List Vl} {vs : List V}, VokAll C.K F μ xs vs → VokAll C.K F1 μ1 xs vs
  | _, _, .nil => .nil
  | _, _, .cons h r => .cons (h.ext a) (VokAll.ext a r)
end
/-! ### data out of what came -/
/-- a new object handed on: data, unless it is to be a cell -/
def frz : Rv → Vl
  | .d x => .d x
  | .c i => .c i
  | .s ns => .s ns
  | .o x => .o x
  | .n (.l xs) => .d (.list xs)
  | .n (.m kvs) => .d (.dict kvs)
def mV (m : Ev) : En → Sto → Res Vl := fun ρ st => (m ρ st).bind fun r s => .ok (frz r) s
/-- .. a cell -/
def mVc (m : Ev) : En → Sto → Res Vl := fun ρ st => (m ρ st).bind fun r s => match r with
  | .n c => .ok (.c s.length) (s ++ [c])
  | r => .ok (frz r) s
section
variable {X : Cx} {C : Cn} {e : Expr} {m : Ev}
theorem _root_.L2.PE.imp {t t' : TE} (h : PE X e t) (w : ∀ σ H Q, t' σ H Q → t σ H Q) : PE X e t' := ⟨fun pins s σ H Q I h' => h.run pins s σ H Q I (w σ H Q h')⟩
theorem frz_out {K : Kw} {μ μ' : Mu} {F H F' H' : Hp} {st st' : Sto} {r : Rv} {v : V} (s : SR K μ F H st) (o : Out K μ F H st' r v μ' F' H') : ∃ F2, Ext μ F H μ' F2 H' ∧ SR K μ' F2 H' st' ∧ Vok K F2 μ' (frz r) v := by
  obtain ⟨ext, sr, rok, new⟩ := o
  cases r with
  | d x => exact ⟨F', ext, sr, rok⟩
  | c i => exact ⟨F', ext, sr, rok⟩
  | s ns => exact ⟨F', ext, sr, rok⟩
  | o x => exact ⟨F', ext, sr, rok⟩
  | n c =>
    obtain ⟨a, o, rfl, h2, h3, h4, h5⟩ := rok
    obtain ⟨a', e1, h0⟩ := new c rfl
    cases e1
    obtain ⟨s2, x2, sm⟩ := sr.freeze ext s.sub h0 h2 h4 h5
    refine ⟨_, x2, s2, ?_⟩
    cases c with
    | l ds =>
      obtain ⟨xs, rfl, q⟩ := h3
      exact .lst upd_same (q.same sm)
    | m kvs =>
      exact (DcOk.same sm h3).dq upd_same
theorem pv_frz (h : PE X e (tM C m)) : PE X e (tV C (mV m)) := h.imp fun σ H Q ⟨ρ, st, μ, F, h1, h2, h3⟩ => ⟨ρ, st, μ, F, h1, h2, by
  show PostE (C.at σ) Q μ F H (m ρ st)
  cases e : m ρ st with
  | ok r st' =>
    simp only [mV, e] at h3
    intro v μ' F' H' o
    obtain ⟨F2, x2, s2, k⟩ := frz_out h2 o
    exact h3 v μ' F2 H' x2 s2 k
  | er e2 st' => simp only [mV, e] at h3; exact h3
  | no => simp only [mV, e] at h3; exact h3⟩
theorem pv_cell (h : PE X e (tM C m)) : PE X e (tV C (mVc m)) := h.imp fun σ H Q ⟨ρ, st, μ, F, h1, h2, h3⟩ => ⟨ρ, st, μ, F, h1, h2, by
  show PostE (C.at σ) Q μ F H (m ρ st)
  cases e : m ρ st with
  | ok r st' =>
    simp only [mVc, e] at h3
    intro v μ' F' H' o
    cases r with
    | d x => exact h3 v μ' F' H' o.ext o.sr o.rok
    | c x => exact h3 v μ' F' H' o.ext o.sr o.rok
    | s x => exact h3 v μ' F' H' o.ext o.sr o.rok
    | o x => exact h3 v μ' F' H' o.ext o.sr o.rok
    | n c =>
      obtain ⟨ext, sr, ⟨a, o, rfl, g2, g3, g4, g5⟩, new⟩ := o
      obtain ⟨a', e1, h0⟩ := new c rfl
      cases e1
      obtain ⟨s2, x2⟩ := sr.celled ext h0 g2 g4 g5 g3
      exact h3 _ _ _ _ x2 s2 ⟨a, by rw [← sr.len]; simp, rfl⟩
  | er e2 st' => simp only [mVc, e] at h3; exact h3
  | no => simp only [mVc, e] at h3; exact h3⟩
end
/-- .. a cell that nobody will write again becomes data -/
def mVz (m : Ev) : En → Sto → Res Vl := fun ρ st => (m ρ st).bind fun r s => match r with
  | .c k => match s[k]? with
    | some (.l xs) => .ok (.d (.list xs)) (s.set k gone)
    | _ => .no
  | r => .ok (frz r) s
/-! ### the objects of the heap cell -/
def decV : PyData → Fv
  | .tuple [x] => .d x
  | .int j => .ob j.toNat
  | _ => .d .none
def decF : PyData → Str × Fv
  | .tuple [.str p, v] => (p, decV v)
  | _ => ("", .d .none)
def decO : PyData → Ho
  | .tuple [.str cls, .list fs] => .ins cls (fs.map decF)
  | .list xs => .lst (xs.map decV)
  | _ => .lst []
theorem dec_map {α β : Type} {f : α → β} {g : β → α} (h : ∀ x, g (f x) = x) : ∀ xs : List α, (xs.map f).map g = xs
  | [] => rfl
  | x :: xs => by rw [List.map_cons, List.map_cons, h, dec_map h xs]
theorem dec_encV : ∀ x, decV (encV x) = x
  | .d _ => rfl
  | .ob _ => rfl
theorem dec_encF : ∀ x, decF (encF x) = x := fun ⟨p, v⟩ => by
  show (p, decV (encV v)) = _
  rw [dec_encV]
theorem dec_encO : ∀ x, decO (encO x) = x
  | .ins cls fs => by
    show Ho.ins cls ((fs.map encF).map decF) = _
    rw [dec_map dec_encF]
  | .lst xs => by
    show Ho.lst ((xs.map encV).map decV) = _
    rw [dec_map dec_encV]
def objsC : Cl → List Ho
  | .m [_, (.list os, _)] => os.map decO
  | _ => []
def objsOf (st : Sto) : List Ho := match st[0]? with
  | some c => objsC c
  | none => []
@[simp] theorem objsC_heap (objs : List Ho) : objsC (heapC objs) = objs := dec_map dec_encO objs
theorem objsOf_eq {st : Sto} {objs : List Ho} (h : st[0]? = some (heapC objs)) : objsOf st = objs := by
  unfold objsOf
  rw [h]
  exact objsC_heap objs
def fvsD : List Fv → Option (List PyData)
  | [] => some []
  | .d x :: r => (fvsD r).map (x :: ·)
  | .ob _ :: _ => none
theorem fvsD_ok {K : Kw} {F : Hp} {η : List Addr} : ∀ {xs : List Fv} {vs : List V} {ds : List PyData}, FvAll K F η xs vs → fvsD xs = some ds → DqAll K F vs ds
  | _, _, _, .nil, e => by cases e; exact .nil
  | .d x :: xs, _, _, .cons h r, e => by
    unfold fvsD at e
    cases q : fvsD xs with
    | none => rw [q] at e; cases e
    | some ds => rw [q] at e; cases e; exact .cons h (fvsD_ok r q)
  | .ob j :: xs, _, _, .cons h r, e => by unfold fvsD at e; cases e
/-- an object, by its number -/
theorem SR.obj {K : Kw} {μ : Mu} {F H : Hp} {st : Sto} (s : SR K μ F H st) {j : Nat} {x : Ho} (h : (objsOf st)[j]? = some x) : ∃ objs a o, st[0]? = some (heapC objs) ∧ objsOf st = objs ∧ objs[j]? = some x ∧ μ.η[j]? = some a ∧ F a = none ∧ H a = some o ∧ HoOk K F μ.η a x o := by
  obtain ⟨objs, k1, k2, k3⟩ := s.obs
  have e := objsOf_eq k1
  rw [e] at h
  obtain ⟨a, o, q1, q2, q3, q4⟩ := k3 j x h
  exact ⟨objs, a, o, k1, e, h, q1, q2, q3, q4⟩
/-! ### what stands at a value, as data: a cell by its content now -/
def viewO (st : Sto) (j : Nat) : Option PyData := match (objsOf st)[j]? with
  | some (.lst xs) => (fvsD xs).map .list
  | _ => none
def view (st : Sto) : Vl → Option PyData
  | .d x => some x
  | .c i => match st[i]? with
    | some (.l xs) => some (.list xs)
    | some (.m kvs) => if isGone (.m kvs) then none else some (.dict kvs)
    | none => none
  | .s _ => none
  | .o (.ob j) => viewO st j
  | .o (.tp ds) => some (.tuple ds)
  | .o _ => none
/-- the thing itself in the heap, its items among the data -/
def Vw (K : Kw) (F H : Hp) : V → PyData → Prop
  | v, .list ds => ∃ a xs, v = .ref a ∧ H a = some (.lst xs) ∧ DqAll K F xs ds
  | v, .dict kvs => (∃ a o, v = .ref a ∧ H a = some o ∧ DcOk K F a kvs o) ∨ ∃ x r, kvs = (.list [], .str x) :: r ∧ Dq K F v (.dict kvs)
  | v, d => Dq K F v d
section
variable {K : Kw} {μ : Mu} {F H : Hp} {st : Sto}
theorem Vw.of {v : V} {d : PyData} (s : Same F H) (h : Dq K F v d) : Vw K F H v d := by
  cases h with
  | lst h r => exact ⟨_, _, rfl, s _ _ h, r⟩
  | dic h r => exact .inl ⟨_, _, rfl, s _ _ h, .inl ⟨_, rfl, r⟩⟩
  | dig h r n z => exact .inl ⟨_, _, rfl, s _ _ h, .inr ⟨_, ⟨_, rfl⟩, r, n, z⟩⟩
  | ins h g r => exact .inr ⟨_, _, rfl, .ins h g r⟩
  | exn0 h => exact .inr ⟨_, _, rfl, .exn0 h⟩
  | exn h g r => exact .inr ⟨_, _, rfl, .exn h g r⟩
  | non => exact .non
  | bl b => exact .bl b
  | int i => exact .int i
  | str x => exact .str x
  | tup h r => exact .tup h r
theorem Vw.dq {v : V} {d : PyData} (s : Same F H) (h : Vw K F H v d) : Dq K H v d := by
  cases d with
  | list ds => obtain ⟨a, xs, rfl, h1, h2⟩ := h; exact .lst h1 (h2.same s)
  | dict ds =>
    rcases h with ⟨a, o, rfl, h1, h2⟩ | ⟨x, r, rfl, h⟩
    · exact (h2.same s).dq h1
    · exact h.same s
  | none => exact Dq.same s h
  | bool b => exact Dq.same s h
  | int i => exact Dq.same s h
  | str x => exact Dq.same s h
  | tuple ds => exact Dq.same s h
theorem view_ok (s : SR K μ F H st) {x : Vl} {v : V} {d : PyData} (h : Vok K F μ x v) (e : view st x = some d) : Vw K F H v d := by
  cases x with
  | d y => cases e; exact Vw.of s.sub h
  | s ns => cases e
  | o x =>
    cases x with
    | ob j =>
      obtain ⟨a, h1, rfl⟩ := h
      have e : viewO st j = some d := e
      unfold viewO at e
      split at e
      · rename_i xs hx
        obtain ⟨objs, a', o, k1, k2, k3, k4, k5, k6, us, rfl, k7⟩ := s.obj hx
        rw [h1] at k4; cases k4
        cases q : fvsD xs with
        | none => rw [q] at e; cases e
        | some ds => rw [q] at e; cases e; exact ⟨_, _, rfl, k6, fvsD_ok k7 q⟩
      · cases e
    | tp ds =>
      cases e
      obtain ⟨a, xs, o, rfl, h1, _, h2⟩ := h
      exact Vw.of s.sub (.tup (.inr ⟨o, h1⟩) h2)
    | _ => cases e
  | c i =>
    obtain ⟨a, h1, rfl⟩ := h
    unfold view at e
    cases q : st[i]? with
    | none => simp only [q] at e; cases e
    | some c =>
      cases c with
      | l xs =>
        obtain ⟨b, o, g1, g2, g3⟩ := s.cell i _ q
        rw [h1] at g1; cases g1
        simp only [q] at e; cases e
        obtain ⟨vs, rfl, r⟩ := g3
        exact ⟨_, _, rfl, g2, r⟩
      | m xs =>
        simp only [q] at e
        cases hz : isGone (.m xs) with
        | true => rw [hz] at e; cases e
        | false =>
          rw [hz] at e
          cases e
          obtain ⟨b, o, g1, g2, g3⟩ := s.cell i _ q hz
          rw [h1] at g1; cases g1
          exact .inl ⟨_, _, rfl, g2, g3⟩
/-- keys that are ints and texts -/
def flK (kvs : List (PyData × PyData)) : Bool := kvs.all fun p => match p.1 with
  | .int _ => true
  | .str _ => true
  | _ => false
theorem DcOk.flat {a : Addr} {kvs : List (PyData × PyData)} {o : HO} (h : DcOk K F a kvs o) (f : flK kvs = true) : ∃ ws, o = .dK ws ∧ DqKv K F ws kvs := by
  rcases h with h | ⟨es, h1, h2, h3, h4⟩
  · exact h
  · cases h2 with
    | nil => exact absurd rfl h4
    | cons g _ _ _ _ =>
      unfold flK at f
      rw [List.all_cons, Bool.and_eq_true] at f
      cases g <;> exact absurd f.1 Bool.false_ne_true
theorem Vw.flat_dict {v : V} {kvs : List (PyData × PyData)} (h : Vw K F H v (.dict kvs)) (f : flK kvs = true) : ∃ a ws, v = .ref a ∧ H a = some (.dK ws) ∧ DqKv K F ws kvs := by
  rcases h with ⟨a, o, rfl, h1, h2⟩ | ⟨x, r, rfl, h⟩
  · obtain ⟨ws, rfl, h3⟩ := h2.flat f
    exact ⟨a, ws, rfl, h1, h3⟩
  · cases f
end
end Cp
/-! Cp1: expressions. -/
namespace Cp
open PySem L2
section
variable {X : Cx} {C : Cn} {Q : VK} {μ : Mu} {F H : Hp} {st : Sto} {e a b c : Expr} {m ma mb mc : Ev} {pos : Pos}
/-! ### how a rule's wish is met -/
theorem fin_d {x : PyData} {v : V} (s : SR C.K μ F H st) (h : PostE C Q μ F H (.ok (.d x) st)) (hv : Dq C.K F v x) : Q v H := h v μ F H ⟨Ext.refl, s, hv, fun _ e => nomatch e⟩
theorem fin_n {c : Cl} {p : Addr} {o : HO} (s : SR C.K μ F H st) (h : PostE C Q μ F H (.ok (.n c) st)) (hp : H p = none) (hc : ClOk C.K F p c o) : Q (.ref p) (upd H p o) :=
  let ⟨s1, x1⟩ := s.newly hp
  h _ μ F _ ⟨x1, s1, ⟨p, o, rfl, upd_same, hc, (s.dead hp).1, (s.dead hp).2⟩, fun _ _ => ⟨p, rfl, hp⟩⟩
theorem fin_t {ds : List PyData} {p : Addr} {xs : List V} (s : SR C.K μ F H st) (h : PostE C Q μ F H (.ok (.d (.tuple ds)) st)) (hp : H p = none) (hx : DqAll C.K F xs ds) : Q (.ref p) (upd H p (.tup xs)) := by
  obtain ⟨s1, x1⟩ := s.newly (o := .tup xs) hp
  obtain ⟨s2, x2, sm⟩ := s1.freeze x1 s.sub hp upd_same (s.dead hp).1 (s.dead hp).2
  exact h _ μ _ _ ⟨x2, s2, .tup (.inl upd_same) (hx.same sm), fun _ e => nomatch e⟩
/-! ### names, constants -/
def Rv.of : Vl → Rv
  | .d x => .d x
  | .c i => .c i
  | .s ns => .s ns
  | .o x => .o x
def mN (i : Nat) : Ev := fun ρ st => match ρ[i]? with
  | some (some x) => .ok (Rv.of x) st
  | _ => .no
def mK (x : PyData) : Ev := fun _ st => .ok (.d x) st
theorem s_name {i : Nat} (h : PE X e (tVar i)) : PE X e (tM C (mN i)) := h.imp fun σ H Q ⟨ρ, st, μ, F, h1, h2, h3⟩ => by
  unfold mN at h3
  cases q : ρ[i]? with
  | none => simp only [q] at h3; exact False.elim h3
  | some o =>
    cases o with
    | none => simp only [q] at h3; exact False.elim h3
    | some x =>
      simp only [q] at h3
      obtain ⟨v, e1, k⟩ := h1.2 i x q
      refine ⟨v, e1, h3 v μ F H ⟨Ext.refl, h2, ?_, fun c z => by cases x <;> cases z⟩⟩
      cases x <;> exact k
theorem s_const {x : PyData} {v : V} (h : PE X e (tC v)) (hd : ∀ F, Dq C.K F v x) : PE X e (tM C (mK x)) := h.imp fun σ H Q ⟨ρ, st, μ, F, h1, h2, h3⟩ => fin_d h2 h3 (hd F)
theorem s_int {i : Int} {j} : PE X (.Constant (.int i) j pos) (tM C (mK (.int i))) := s_const pe_int fun _ => .int i
theorem s_bool {i : Bool} {j} : PE X (.Constant (.bool i) j pos) (tM C (mK (.bool i))) := s_const pe_bl fun _ => .bl i
theorem s_none {j} : PE X (.Constant .none j pos) (tM C (mK .none)) := s_const pe_non fun _ => .non
theorem s_str {x : Str} {j} : PE X (.Constant (.str x) j pos) (tM C (mK (.str x))) := s_const pe_str fun _ => .str x
/-! ### operators of two values -/
def view2 (f : PyData → PyData → Option Rv) (s : Sto) (x y : Vl) : Res Rv := match view s x, view s y with
  | some a, some b => match f a b with
    | some r => .ok r s
    | none => .no
  | _, _ => .no
def mBin (f : PyData → PyData → Option Rv) (ma mb : Ev) : Ev := fun ρ st => (mV ma ρ st).bind fun x s1 => (mV mb ρ s1).bind fun y s2 => view2 f s2 x y
def BinOk (C : Cn) (r : R2) (f : PyData → PyData → Option Rv) : Prop :=
  ∀ (a b : PyData) (res : Rv) (v u : V) (μ : Mu) (F H : Hp) (st : Sto) (Q : VK), SR C.K μ F H st → Vw C.K F H v a → Vw C.K F H u b → f a b = some res → PostE C Q μ F H (.ok res st) → r v u H Q
theorem s_two {r : R2} {f : PyData → PyData → Option Rv} (h : PE X e (tOp r (tV C (mV ma)) (tV C (mV mb)))) (ok : BinOk C r f) : PE X e (tM C (mBin f ma mb)) :=
  h.imp fun σ H Q ⟨ρ, st, μ, F, h1, h2, h3⟩ => ⟨ρ, st, μ, F, h1, h2, Post.bindV gE_lat h3 fun x s v μ1 F1 H1 x1 r1 k1 h4 =>
    ⟨ρ, s, μ1, F1, h1.ext x1, r1, Post.bindV gE_lat h4 fun y s2 u μ2 F2 H2 x2 r2 k2 h5 => by
      unfold view2 at h5
      cases q1 : view s2 x with
      | none => simp only [q1] at h5; exact False.elim h5
      | some da =>
        cases q2 : view s2 y with
        | none => simp only [q1, q2] at h5; exact False.elim h5
        | some db =>
          cases q3 : f da db with
          | none => simp only [q1, q2, q3] at h5; exact False.elim h5
          | some res =>
            simp only [q1, q2, q3] at h5
            exact ok da db res v u μ2 F2 H2 s2 Q r2 (view_ok r2 (k1.ext x2) q1) (view_ok r2 k2 q2) q3 h5⟩⟩
theorem s_bin {op : Operator} {r : R2} {f : PyData → PyData → Option Rv} (ho : OpR X (binaryOp op) r) (ok : BinOk C r f) (ha : PE X a (tM C ma)) (hb : PE X b (tM C mb)) : PE X (.BinOp a op b pos) (tM C (mBin f ma mb)) :=
  s_two (pe_op ho (pv_frz ha) (pv_frz hb)) ok
theorem BinOk.or {r r' : R2} {f f' : PyData → PyData → Option Rv} (h : BinOk C r f) (h' : BinOk C r' f') : BinOk C (fun x y H Q => r x y H Q ∨ r' x y H Q) (fun a b => match f a b with | some z => some z | none => f' a b) := by
  intro a b res v u μ F H st Q s va vb e p
  cases q : f a b with
  | some z => simp only [q] at e; cases e; exact .inl (h a b _ v u μ F H st Q s va vb q p)
  | none => simp only [q] at e; exact .inr (h' a b res v u μ F H st Q s va vb e p)
/-- ints to an int -/
def fI (P : Int → Int → Bool) (g : Int → Int → Int) : PyData → PyData → Option Rv
  | .int i, .int j => if P i j then some (.d (.int (g i j))) else none
  | _, _ => none
theorem Vw.int {K : Kw} {v : V} {i : Int} (h : Vw K F H v (.int i)) : v = .int i := by cases (show Dq K F v (.int i) from h); rfl
theorem Vw.bl {K : Kw} {v : V} {i : Bool} (h : Vw K F H v (.bool i)) : v = .bl i := by cases (show Dq K F v (.bool i) from h); rfl
theorem Vw.str {K : Kw} {v : V} {i : Str} (h : Vw K F H v (.str i)) : v = .str i := by cases (show Dq K F v (.str i) from h); rfl
theorem Vw.non {K : Kw} {v : V} (h : Vw K F H v .none) : v = .non := by cases (show Dq K F v .none from h); rfl
theorem Vw.tup {K : Kw} {v : V} {ds : List PyData} (h : Vw K F H v (.tuple ds)) : ∃ a xs, v = .ref a ∧ Rd F a (.tup xs) ∧ DqAll K F xs ds := by cases (show Dq K F v (.tuple ds) from h) with | tup h1 h2 => exact ⟨_, _, rfl, h1, h2⟩
theorem fI_ok {P : Int → Int → Prop} {p : Int → Int → Bool} {g : Int → Int → Int} (hp : ∀ i j, p i j = true → P i j) : BinOk C (rI P fun i j => .int (g i j)) (fI p g) := by
  intro a b res v u μ F H st Q s va vb e h
  unfold fI at e
  split at e
  · split at e
    · rename_i hh
      cases e
      exact ⟨_, _, va.int, vb.int, hp _ _ hh, fin_d s h (.int _)⟩
    · cases e
  · cases e
theorem fI0_ok {g : Int → Int → Int} : BinOk C (rI0 fun i j => .int (g i j)) (fI (fun _ _ => true) g) := by
  intro a b res v u μ F H st Q s va vb e h
  unfold fI at e
  split at e
  · simp only [if_true] at e
    cases e
    exact ⟨_, _, va.int, vb.int, fin_d s h (.int _)⟩
  · cases e
/-- texts, tuples, lists joined -/
def fCatS : PyData → PyData → Option Rv
  | .str i, .str j => if i.length + j.length ≤ sizeLine then some (.d (.str (i ++ j))) else none
  | _, _ => none
def fCatT : PyData → PyData → Option Rv
  | .tuple i, .tuple j => if i.length + j.length ≤ sizeLine then some (.d (.tuple (i ++ j))) else none
  | _, _ => none
def fCatL : PyData → PyData → Option Rv
  | .list i, .list j => if i.length + j.length ≤ sizeLine then some (.n (.l (i ++ j))) else none
  | _, _ => none
theorem fCatS_ok : BinOk C (fun x y H Q => ∃ i j, x = .str i ∧ y = .str j ∧ i.length + j.length ≤ sizeLine ∧ Q (.str (i ++ j)) H) fCatS := by
  intro a b res v u μ F H st Q s va vb e h
  unfold fCatS at e
  split at e
  · split at e
    · cases e
      exact ⟨_, _, va.str, vb.str, by assumption, fin_d s h (.str _)⟩
    · cases e
  · cases e
theorem fCatT_ok {K : PySem.W.Frag} : BinOk C (rCatA K) fCatT := by
  intro a b res v u μ F H st Q s va vb e h
  unfold fCatT at e
  split at e
  · split at e
    · rename_i hz
      cases e
      obtain ⟨p, xs, rfl, p1, p2⟩ := va.tup
      obtain ⟨q, ys, rfl, q1, q2⟩ := vb.tup
      refine ⟨p, q, xs, ys, rfl, rfl, SqT.rd s.sub p1, SqT.rd s.sub q1, by rw [p2.length, q2.length]; exact hz, fun z => ?_, fun _ z => ?_, fun _ _ r hr => fin_t s h hr (p2.app q2)⟩
      · subst z
        cases p2
        exact fin_d s h (.tup q1 q2)
      · subst z
        cases q2
        exact fin_d s (by simpa using h) (.tup p1 p2)
    · cases e
  · cases e
theorem fCatL_ok : BinOk C rCat fCatL := by
  intro a b res v u μ F H st Q s va vb e h
  unfold fCatL at e
  split at e
  · split at e
    · rename_i hz
      cases e
      obtain ⟨p, xs, rfl, p1, p2⟩ := va
      obtain ⟨q, ys, rfl, q1, q2⟩ := vb
      exact ⟨p, q, xs, ys, rfl, rfl, p1, q1, by rw [p2.length, q2.length]; exact hz, fun r hr => fin_n s h hr ⟨_, rfl, p2.app q2⟩⟩
    · cases e
  · cases e
end
end Cp
/-! Cp2: comparisons, tests, places, slices, displays. -/
namespace Cp
open PySem L2
section
variable {X : Cx} {C : Cn} {Q : VK} {μ : Mu} {F H : Hp} {st : Sto} {e a b c : Expr} {m ma mb mc : Ev} {pos : Pos}
/-! ### comparisons -/
def CmpOk (C : Cn) (r : R2) (g : PyData → PyData → Option Bool) : Prop :=
  ∀ (a b : PyData) (k : Bool) (v u : V) (μ : Mu) (F H : Hp) (st : Sto) (Q : VK), SR C.K μ F H st → Vw C.K F H v a → Vw C.K F H u b → g a b = some k → Q (.bl k) H → r v u H Q
def cmp2 (g : PyData → PyData → Option Bool) (s : Sto) (x y : Vl) : Option Bool := match view s x, view s y with
  | some a, some b => g a b
  | _, _ => none
def okB (o : Option Bool) (s : Sto) : Res Bool := match o with
  | some k => .ok k s
  | none => .no
/-- a test's answer as a value -/
def bV (m : En → Sto → Res Bool) : Ev := fun ρ st => (m ρ st).bind fun k s => .ok (.d (.bool k)) s
def mCmp (g : PyData → PyData → Option Bool) (ma mb : Ev) : En → Sto → Res Bool := fun ρ st => (mV ma ρ st).bind fun x s1 => (mV mb ρ s1).bind fun y s2 => okB (cmp2 g s2 x y) s2
theorem CmpOk.or {r r' : R2} {f f' : PyData → PyData → Option Bool} (h : CmpOk C r f) (h' : CmpOk C r' f') : CmpOk C (fun x y H Q => r x y H Q ∨ r' x y H Q) (fun a b => match f a b with | some z => some z | none => f' a b) := by
  intro a b res v u μ F H st Q s va vb e p
  cases q : f a b with
  | some z => simp only [q] at e; cases e; exact .inl (h a b _ v u μ F H st Q s va vb q p)
  | none => simp only [q] at e; exact .inr (h' a b res v u μ F H st Q s va vb e p)
theorem cmp_core {β : Type} {G : β → Sto → Mu → Hp → Hp → Prop} (gl : Lat G) {r : R2} {g : PyData → PyData → Option Bool} (ok : CmpOk C r g) {σ : St} {ρ : En} {R : VK} (h1 : Eok C.K F μ ρ σ) {kk : Bool → Sto → Res β}
    (h3 : Post (C.at σ) G μ F H ((mCmp g ma mb ρ st).bind kk)) (fin : ∀ k s μ1 F1 H1, Ext μ F H μ1 F1 H1 → SR C.K μ1 F1 H1 s → Post (C.at σ) G μ1 F1 H1 (kk k s) → R (.bl k) H1) :
    PostV (C.at σ) (fun x H1 => tV C (mV mb) σ H1 fun y H2 => r x y H2 R) μ F H (mV ma ρ st) := by
  have h3' : Post (C.at σ) G μ F H ((mV ma ρ st).bind fun x s1 => ((mV mb ρ s1).bind fun y s2 => okB (cmp2 g s2 x y) s2).bind kk) := by
    revert h3
    unfold mCmp
    cases mV ma ρ st <;> exact id
  refine Post.bindV gl h3' fun x s v μ1 F1 H1 x1 r1 k1 h4 => ⟨ρ, s, μ1, F1, h1.ext x1, r1, ?_⟩
  have h4' : Post (C.at σ) G μ1 F1 H1 ((mV mb ρ s).bind fun y s2 => (okB (cmp2 g s2 x y) s2).bind kk) := by
    revert h4
    cases mV mb ρ s <;> exact id
  refine Post.bindV gl h4' fun y s2 u μ2 F2 H2 x2 r2 k2 h5 => ?_
  unfold cmp2 at h5
  cases q1 : view s2 x with
  | none => simp only [q1, okB] at h5; exact False.elim h5
  | some da =>
    cases q2 : view s2 y with
    | none => simp only [q1, q2, okB] at h5; exact False.elim h5
    | some db =>
      cases q3 : g da db with
      | none => simp only [q1, q2, q3, okB] at h5; exact False.elim h5
      | some k =>
        simp only [q1, q2, q3, okB] at h5
        exact ok da db k v u μ2 F2 H2 s2 R r2 (view_ok r2 (k1.ext x2) q1) (view_ok r2 k2 q2) q3 (fin k s2 μ2 F2 H2 (x1.trans x2) r2 h5)
theorem s_cmp {op : CmpOp} {r : R2} {g : PyData → PyData → Option Bool} (ho : OpR X (compareOp op) r) (ok : CmpOk C r g) (ha : PE X a (tM C ma)) (hb : PE X b (tM C mb)) (hm : behindInMarks op b = false) : PE X (.Compare a [op] [b] pos) (tM C (bV (mCmp g ma mb))) :=
  (pe_cmpR ho (pv_frz ha) (pv_frz hb) hm).imp fun σ H Q ⟨ρ, st, μ, F, h1, h2, h3⟩ => ⟨ρ, st, μ, F, h1, h2, cmp_core gE_lat ok h1 h3 fun k s μ1 F1 H1 x1 r1 h => fin_d r1 h (.bl k)⟩
theorem s_cmpT {op : CmpOp} {r : R2} {g : PyData → PyData → Option Bool} (ho : OpR X (compareOp op) r) (ok : CmpOk C r g) (ha : PE X a (tM C ma)) (hb : PE X b (tM C mb)) (hm : behindInMarks op b = false) : PT X (.Compare a [op] [b] pos) (tT C (mCmp g ma mb)) := by
  have h := pt_cmpR (pos := pos) ho (pv_frz ha) (pv_frz hb) hm
  refine ⟨fun pins s σ H Q I ⟨ρ, st, μ, F, h1, h2, h3⟩ => h.run pins s σ H Q I ⟨ρ, st, μ, F, h1, h2, ?_⟩⟩
  have h3' : PostB (C.at σ) Q μ F H ((mCmp g ma mb ρ st).bind fun k s => .ok k s) := by
    revert h3
    cases mCmp g ma mb ρ st <;> exact id
  exact cmp_core gB_lat ok h1 h3' fun k s μ1 F1 H1 x1 r1 h => ⟨k, rfl, h μ1 F1 H1 Ext.refl r1⟩
/-! ### their answers -/
mutual
theorem Dq.dp {K : Kw} {K' : PySem.W.Frag} {H : Hp} : ∀ {v : V} {d : PyData}, Dq K H v d → d.canLay0 = true → Dp K' H v d
  | _, _, .non, _ => .non
  | _, _, .bl b, _ => .bl b
  | _, _, .int i, _ => .int i
  | _, _, .str x, _ => .str x
  | _, _, .lst h r, c => .lst (SqL.of h) (DqAll.dp r c)
  | _, _, .tup h r, c => .tup (.inl h) (DqAll.dp r c)
  | _, _, .dic _ _, c => by simp [PyData.canLay0] at c
  | _, _, .dig _ _ _ _, c => by simp [PyData.canLay0] at c
  | _, _, .ins _ _ _, c => by simp [PyData.canLay0] at c
  | _, _, .exn0 _, c => by simp [PyData.canLay0] at c
  | _, _, .exn _ _ _, c => by simp [PyData.canLay0] at c
theorem DqAll.dp {K : Kw} {K' : PySem.W.Frag} {H : Hp} : ∀ {vs : List V} {ds : List PyData}, DqAll K H vs ds → PyData.canLayAll0 ds = true → DpAll K' H vs ds
  | _, _, .nil, _ => .nil
  | _, _, .cons h r, c => by
    rw [PyData.canLayAll0, Bool.and_eq_true] at c
    exact .cons (Dq.dp h c.1) (DqAll.dp r c.2)
end
def gEq (a b : PyData) : Option Bool := if SeqAt.shaped a && SeqAt.shaped b then some (PyData.eqv a b) else none
def gNe (a b : PyData) : Option Bool := if SeqAt.shaped a && SeqAt.shaped b then some (!PyData.eqv a b) else none
theorem gEq_ok {K : PySem.W.Frag} : CmpOk C (rEqD K) gEq := by
  intro a b k v u μ F H st Q s va vb e q
  unfold gEq at e
  split at e
  · rename_i hh
    rw [Bool.and_eq_true] at hh
    cases e
    exact ⟨a, b, (va.dq s.sub).dp (SeqAt.canLay_of_shaped hh.1), (vb.dq s.sub).dp (SeqAt.canLay_of_shaped hh.2), hh.1, hh.2, q⟩
  · cases e
theorem gNe_ok {K : PySem.W.Frag} : CmpOk C (rNeD K) gNe := by
  intro a b k v u μ F H st Q s va vb e q
  unfold gNe at e
  split at e
  · rename_i hh
    rw [Bool.and_eq_true] at hh
    cases e
    exact ⟨a, b, (va.dq s.sub).dp (SeqAt.canLay_of_shaped hh.1), (vb.dq s.sub).dp (SeqAt.canLay_of_shaped hh.2), hh.1, hh.2, q⟩
  · cases e
def gI (p : Int → Int → Bool) : PyData → PyData → Option Bool
  | .int i, .int j => some (p i j)
  | _, _ => none
theorem gI_ok {p : Int → Int → Bool} : CmpOk C (rI0 fun i j => .bl (p i j)) (gI p) := by
  intro a b k v u μ F H st Q s va vb e q
  unfold gI at e
  split at e
  · cases e; exact ⟨_, _, va.int, vb.int, q⟩
  · cases e
def isNone : PyData → Bool
  | .none => true
  | _ => false
/-- in a list or tuple of flat things -/
def flatD : PyData → Bool
  | .none => true
  | .bool _ => true
  | .int _ => true
  | .str _ => true
  | _ => false
def eqF : PyData → PyData → Bool
  | .none, .none => true
  | .bool a, .bool b => a == b
  | .bool a, .int b => (if a then 1 else 0) == b
  | .int a, .bool b => a == (if b then 1 else 0)
  | .int a, .int b => a == b
  | .str a, .str b => a == b
  | _, _ => false
def itemsD : PyData → Option (List PyData)
  | .list xs => some xs
  | .tuple xs => some xs
  | _ => none
def gIn (neg : Bool) (a b : PyData) : Option Bool := match itemsD b with
  | some xs => if flatD a && xs.all flatD then some (if neg then !xs.any (fun y => eqF y a) else xs.any (fun y => eqF y a)) else none
  | none => none
theorem flat_dq {K : Kw} {v : V} {d : PyData} (h : Dq K F v d) (f : flatD d = true) : flatV v = true ∧ ∀ {u : V} {e : PyData}, Dq K F u e → flatD e = true → eqV u v = eqF e d := by
  cases h with
  | non => exact ⟨rfl, fun {u e} g fe => by cases g <;> first | rfl | cases fe⟩
  | bl b => exact ⟨rfl, fun {u e} g fe => by cases g <;> first | rfl | cases fe⟩
  | int b => exact ⟨rfl, fun {u e} g fe => by cases g <;> first | rfl | cases fe⟩
  | str b => exact ⟨rfl, fun {u e} g fe => by cases g <;> first | rfl | cases fe⟩
  | lst _ _ => cases f
  | tup _ _ => cases f
  | dic _ _ => cases f
  | dig _ _ _ _ => cases f
  | ins _ _ _ => cases f
  | exn0 _ => cases f
  | exn _ _ _ => cases f
theorem flat_all {K : Kw} {v : V} {d : PyData} (h : Dq K F v d) (f : flatD d = true) : ∀ {vs : List V} {ds : List PyData}, DqAll K F vs ds → ds.all flatD = true → vs.all flatV = true ∧ inV v vs = ds.any (fun y => eqF y d)
  | _, _, .nil, _ => ⟨rfl, rfl⟩
  | _, _, .cons (v := u) (vs := us) (d := e) (ds := es) g r, c => by
    rw [List.all_cons, Bool.and_eq_true] at c
    obtain ⟨h1, h2⟩ := flat_all h f r c.2
    refine ⟨by rw [List.all_cons, (flat_dq g c.1).1, h1]; rfl, ?_⟩
    show ((u :: us).any fun y => eqV y v) = ((e :: es).any fun y => eqF y d)
    rw [List.any_cons, List.any_cons, (flat_dq h f).2 g c.1]
    exact congrArg _ h2
theorem Vw.flat {K : Kw} {v : V} {d : PyData} (h : Vw K F H v d) (f : flatD d = true) : Dq K F v d := by
  cases d with
  | list xs => cases f
  | dict xs => cases f
  | _ => exact h
theorem gIn_ok {K : PySem.W.Frag} {neg : Bool} : CmpOk C (rIn K neg) (gIn neg) := by
  intro a b k v u μ F H st Q s va vb e q
  unfold gIn at e
  cases b with
  | list ds =>
    simp only [itemsD] at e
    split at e
    · rename_i hh
      rw [Bool.and_eq_true] at hh
      cases e
      obtain ⟨p, xs, rfl, p1, p2⟩ := vb
      obtain ⟨h1, h2⟩ := flat_all (va.flat hh.1) hh.1 p2 hh.2
      exact ⟨p, xs, rfl, .inl (SqL.of p1), (flat_dq (va.flat hh.1) hh.1).1, h1, by rw [h2]; exact q⟩
    · cases e
  | tuple ds =>
    simp only [itemsD] at e
    split at e
    · rename_i hh
      rw [Bool.and_eq_true] at hh
      cases e
      obtain ⟨p, xs, rfl, p1, p2⟩ := vb.tup
      obtain ⟨h1, h2⟩ := flat_all (va.flat hh.1) hh.1 p2 hh.2
      exact ⟨p, xs, rfl, .inr (SqT.rd s.sub p1), (flat_dq (va.flat hh.1) hh.1).1, h1, by rw [h2]; exact q⟩
    · cases e
  | _ => cases e
/-! ### truth, and, or, not, if -/
def truD : PyData → Option Bool
  | .none => some false
  | .bool b => some b
  | .int i => some (i != 0)
  | .str y => if y.length ≤ sizeLine then some ((y.length : Int) != 0) else none
  | .list xs => some (!xs.isEmpty)
  | .tuple xs => some (!xs.isEmpty)
  | .dict xs => if flK xs then some (!xs.isEmpty) else none
theorem truD_ok {K : Kw} {K' : PySem.W.Frag} {v : V} {d : PyData} {k : Bool} (s : Same F H) (h : Vw K F H v d) (e : truD d = some k) : TruV K' v H k := by
  cases d with
  | none => cases e; rw [h.non]; exact rfl
  | bool b => cases e; rw [h.bl]; exact rfl
  | int b => cases e; rw [h.int]; exact rfl
  | str b =>
    rw [h.str]
    simp only [truD] at e
    by_cases hz : b.length ≤ sizeLine
    · rw [if_pos hz] at e; cases e; exact ⟨hz, rfl⟩
    · rw [if_neg hz] at e; cases e
  | list b => cases e; obtain ⟨p, xs, rfl, h1, h2⟩ := h; exact .inl ⟨xs, SqL.of h1, by cases h2 <;> rfl⟩
  | tuple b => cases e; obtain ⟨p, xs, rfl, h1, h2⟩ := h.tup; exact .inr (.inl ⟨xs, SqT.rd s h1, by cases h2 <;> rfl⟩)
  | dict b =>
    simp only [truD] at e
    by_cases hf : flK b = true
    · rw [if_pos hf] at e; cases e; obtain ⟨p, xs, rfl, h1, h2⟩ := h.flat_dict hf; exact .inr (.inr ⟨xs, h1, by cases h2 <;> rfl⟩)
    · rw [if_neg hf] at e; cases e
def mTru (m : Ev) : En → Sto → Res Bool := fun ρ st => (mV m ρ st).bind fun x s => okB ((view s x).bind truD) s
/-- an expression as a test -/
theorem s_test (h : PE X e (tM C m)) (he : ∀ whole, isTrue e X.env whole = (do let v ← whole; standAt e.pos; holding [v] (truthy v))) : PT X e (tT C (mTru m)) := by
  have h := pt_truth (pv_frz h) he
  refine ⟨fun pins s σ H Q I ⟨ρ, st, μ, F, h1, h2, h3⟩ => h.run pins s σ H Q I ⟨ρ, st, μ, F, h1, h2, ?_⟩⟩
  refine Post.bindV gB_lat h3 fun x s v μ1 F1 H1 x1 r1 k1 h4 => ?_
  cases q1 : view s x with
  | none => simp only [q1, Option.bind, okB] at h4; exact False.elim h4
  | some d =>
    cases q2 : truD d with
    | none => simp only [q1, q2, Option.bind, okB] at h4; exact False.elim h4
    | some k =>
      simp only [q1, q2, Option.bind, okB] at h4
      exact ⟨k, truD_ok r1.sub (view_ok r1 k1 q1) q2, h4 μ1 F1 H1 Ext.refl r1⟩
/-- a test as it is seen by one that wants the answer's continuation -/
theorem tT_bind {β : Type} {G : β → Sto → Mu → Hp → Hp → Prop} (gl : Lat G) {m : En → Sto → Res Bool} {kk : Bool → Sto → Res β} {σ : St} {ρ : En} {R : Bool → Hp → Prop} (h1 : Eok C.K F μ ρ σ) (h2 : SR C.K μ F H st)
    (h3 : Post (C.at σ) G μ F H ((m ρ st).bind kk)) (fin : ∀ k s μ1 F1 H1, Ext μ F H μ1 F1 H1 → SR C.K μ1 F1 H1 s → Eok C.K F1 μ1 ρ σ → Post (C.at σ) G μ1 F1 H1 (kk k s) → R k H1) : tT C m σ H R :=
  ⟨ρ, st, μ, F, h1, h2, Post.bindB gl h3 fun x s μ1 F1 H1 x1 r1 h4 => fin x s μ1 F1 H1 x1 r1 (h1.ext x1) h4⟩
def bAnd (ma mb : En → Sto → Res Bool) : En → Sto → Res Bool := fun ρ st => (ma ρ st).bind fun k s => if k = true then mb ρ s else .ok false s
def bOr (ma mb : En → Sto → Res Bool) : En → Sto → Res Bool := fun ρ st => (ma ρ st).bind fun k s => if k = true then .ok true s else mb ρ s
def bNot (ma : En → Sto → Res Bool) : En → Sto → Res Bool := fun ρ st => (ma ρ st).bind fun k s => .ok (!k) s
variable {ba bb bc : En → Sto → Res Bool} {rest : List Expr}
theorem w_or1 (ha : PT X a (tT C ba)) : PW X (.BoolOp .Or [a] pos) (tT C ba) := pw_or1 ha
theorem _root_.L2.PW.imp {t t' : TT} (h : PW X e t) (w : ∀ σ H Q, t' σ H Q → t σ H Q) : PW X e t' := ⟨fun wh pins s σ H Q I h' => h.run wh pins s σ H Q I (w σ H Q h')⟩
theorem _root_.L2.PT.imp {t t' : TT} (h : PT X e t) (w : ∀ σ H Q, t' σ H Q → t σ H Q) : PT X e t' := ⟨fun pins s σ H Q I h' => h.run pins s σ H Q I (w σ H Q h')⟩
theorem w_or (ha : PT X a (tT C ba)) (hb : PW X (.BoolOp .Or (b :: rest) pos) (tT C bb)) : PW X (.BoolOp .Or (a :: b :: rest) pos) (tT C (bOr ba bb)) :=
  (pw_or ha hb).imp fun σ H Q ⟨ρ, st, μ, F, h1, h2, h3⟩ => tT_bind gB_lat h1 h2 h3 fun k s μ1 F1 H1 x1 r1 e1 h4 => by
    cases k with
    | false => simp only [Bool.false_eq_true, if_false] at h4 ⊢; exact ⟨ρ, s, μ1, F1, e1, r1, h4⟩
    | true => simp only [if_true] at h4 ⊢; exact h4 μ1 F1 H1 Ext.refl r1
theorem s_notT (ha : PT X a (tT C ba)) : PT X (.UnaryOp .Not a pos) (tT C (bNot ba)) :=
  (pt_not ha).imp fun σ H Q ⟨ρ, st, μ, F, h1, h2, h3⟩ => tT_bind gB_lat h1 h2 h3 fun k s μ1 F1 H1 x1 r1 e1 h4 => h4 μ1 F1 H1 Ext.refl r1
def eIf (c : En → Sto → Res Bool) (ma mb : Ev) : Ev := fun ρ st => (c ρ st).bind fun k s => if k = true then ma ρ s else mb ρ s
def eAnd (ma mb : Ev) : Ev := fun ρ st => (mV ma ρ st).bind fun x s => match x with
  | .d (.bool true) => mb ρ s
  | .d (.bool false) => .ok (.d (.bool false)) s
  | _ => .no
def eOr (ma mb : Ev) : Ev := fun ρ st => (mV ma ρ st).bind fun x s => match x with
  | .d (.bool true) => .ok (.d (.bool true)) s
  | .d (.bool false) => mb ρ s
  | _ => .no
def eNot (ma : Ev) : Ev := fun ρ st => (mV ma ρ st).bind fun x s => match x with
  | .d (.bool k) => .ok (.d (.bool (!k))) s
  | _ => .no
end
end Cp
/-! Cp3: places, slices, displays, calls of built-in functions and methods. -/
namespace Cp
open PySem L2
section
variable {X : Cx} {C : Cn} {Q : VK} {μ : Mu} {F H : Hp} {st : Sto} {e a b c : Expr} {m ma mb mc : Ev} {pos : Pos} {es : List Expr}
/-! ### places -/
theorem atI_dq {K : Kw} {xs : List V} {ds : List PyData} {i : Int} {d : PyData} (r : DqAll K F xs ds) (h : atI ds i = some d) : ∃ v, atI xs i = some v ∧ Dq K F v d := by
  unfold atI at h ⊢
  rw [r.length]
  cases q : ixN ds.length i with
  | none => rw [q] at h; cases h
  | some j =>
    rw [q] at h
    obtain ⟨v, h1, h2⟩ := r.get (show ds[j]? = some d from h)
    exact ⟨v, h1, h2⟩
theorem atI_ints {ns : List Int} {i k : Int} (h : atI ns i = some k) : atI (ns.map V.int) i = some (.int k) := by
  unfold atI at h ⊢
  rw [List.length_map]
  cases q : ixN ns.length i with
  | none => rw [q] at h; cases h
  | some j =>
    rw [q] at h
    have h : ns[j]? = some k := h
    show (ns.map V.int)[j]? = some (.int k)
    rw [List.getElem?_map, h]; rfl
def fIx : PyData → PyData → Option Rv
  | .list xs, .int i => (atI xs i).map .d
  | .tuple xs, .int i => (atI xs i).map .d
  | .str z, .int i => if z.length ≤ sizeLine then (atI z.cps.toList i).map fun c => .d (.str ⟨#[c]⟩) else none
  | _, _ => none
theorem fIx_ok {K : PySem.W.Frag} : BinOk C (rIx K) fIx := by
  intro a b res v u μ F H st Q s va vb e h
  unfold fIx at e
  split at e
  · obtain ⟨p, xs, rfl, p1, p2⟩ := va
    obtain ⟨d, hd, rfl⟩ := Option.map_eq_some_iff.mp e
    obtain ⟨w, h1, h2⟩ := atI_dq p2 hd
    exact .inl ⟨p, xs, _, w, rfl, vb.int, SqL.of p1, h1, fin_d s h h2⟩
  · obtain ⟨p, xs, rfl, p1, p2⟩ := va.tup
    obtain ⟨d, hd, rfl⟩ := Option.map_eq_some_iff.mp e
    obtain ⟨w, h1, h2⟩ := atI_dq p2 hd
    exact .inr (.inl ⟨p, xs, _, w, rfl, vb.int, SqT.rd s.sub p1, h1, fin_d s h h2⟩)
  · split at e
    · rename_i hz
      obtain ⟨d, hd, rfl⟩ := Option.map_eq_some_iff.mp e
      exact .inr (.inr ⟨_, _, d, va.str, vb.int, hz, hd, fin_d s h (.str _)⟩)
    · cases e
  · cases e
theorem s_ix (ha : PE X a (tM C ma)) (hb : PE X b (tM C mb)) (hs : PlainIx b) : PE X (.Subscript a b pos) (tM C (mBin fIx ma mb)) :=
  s_two (pe_ix ix_seq (pv_frz ha) (pv_frz hb) hs) fIx_ok
/-- script[i] -/
def mSix (ma mb : Ev) : Ev := fun ρ st => (mV ma ρ st).bind fun x s1 => (mV mb ρ s1).bind fun y s2 => match x, y with
  | .s ns, .d (.int i) => match atI ns i with
    | some k => .ok (.d (.int k)) s2
    | none => .no
  | _, _ => .no
theorem s_six (hK : C.K = X.K) (ha : PE X a (tM C ma)) (hb : PE X b (tM C mb)) (hs : PlainIx b) : PE X (.Subscript a b pos) (tM C (mSix ma mb)) :=
  (pe_ix ix_seq (pv_frz ha) (pv_frz hb) hs).imp fun σ H Q ⟨ρ, st, μ, F, h1, h2, h3⟩ => ⟨ρ, st, μ, F, h1, h2, Post.bindV gE_lat h3 fun x s v μ1 F1 H1 x1 r1 k1 h4 =>
    ⟨ρ, s, μ1, F1, h1.ext x1, r1, Post.bindV gE_lat h4 fun y s2 u μ2 F2 H2 x2 r2 k2 h5 => by
      cases x with
      | d _ => exact False.elim h5
      | c _ => exact False.elim h5
      | o _ => exact False.elim h5
      | s ns =>
        cases y with
        | s _ => exact False.elim h5
        | o _ => exact False.elim h5
        | c _ => exact False.elim h5
        | d y =>
          cases y with
          | int i =>
            cases q : atI ns i with
            | none => simp only [q] at h5; exact False.elim h5
            | some k =>
              simp only [q] at h5
              obtain ⟨p, rfl, hp⟩ := k1
              cases (show Dq C.K F2 u (.int i) from k2)
              exact .inl ⟨p, _, i, .int k, rfl, rfl, hK ▸ (r2.sub).seq (x2.same.seq hp), atI_ints q, fin_d r2 h5 (.int k)⟩
          | _ => exact False.elim h5⟩⟩
/-! ### argument lists, displays -/
def aNil : En → Sto → Res (List Vl) := fun _ st => .ok [] st
def aCons (mv : En → Sto → Res Vl) (mr : En → Sto → Res (List Vl)) : En → Sto → Res (List Vl) := fun ρ st => (mv ρ st).bind fun x s1 => (mr ρ s1).bind fun xs s2 => .ok (x :: xs) s2
theorem _root_.L2.PA.imp {t t' : TA} (h : PA X es t) (w : ∀ σ H Q, t' σ H Q → t σ H Q) : PA X es t' := ⟨fun pos pins s σ H Q I h' => h.run pos pins s σ H Q I (w σ H Q h')⟩
theorem a_nil : PA X [] (tAs C aNil) := pa_nil.imp fun σ H Q ⟨ρ, st, μ, F, h1, h2, h3⟩ => h3 [] μ F H Ext.refl h2 .nil
theorem a_consV {mv : En → Sto → Res Vl} {mr : En → Sto → Res (List Vl)} (ha : PE X e (tV C mv)) (hr : PA X es (tAs C mr)) (hs : starEach (e :: es) X.env = (false, eval e X.env) :: starEach es X.env := by rfl) : PA X (e :: es) (tAs C (aCons mv mr)) :=
  (pa_cons ha hr hs).imp fun σ H Q ⟨ρ, st, μ, F, h1, h2, h3⟩ => ⟨ρ, st, μ, F, h1, h2, Post.bindV gA_lat h3 fun x s v μ1 F1 H1 x1 r1 k1 h4 =>
    ⟨ρ, s, μ1, F1, h1.ext x1, r1, Post.bindA gA_lat h4 fun y s2 u μ2 F2 H2 x2 r2 k2 h5 => h5 (v :: u) μ2 F2 H2 Ext.refl r2 (.cons (k1.ext x2) k2)⟩⟩
theorem a_cons {mr : En → Sto → Res (List Vl)} (ha : PE X e (tM C m)) (hr : PA X es (tAs C mr)) (hs : starEach (e :: es) X.env = (false, eval e X.env) :: starEach es X.env := by rfl) : PA X (e :: es) (tAs C (aCons (mV m) mr)) := a_consV (pv_frz ha) hr hs
theorem a_consC {mr : En → Sto → Res (List Vl)} (ha : PE X e (tM C m)) (hr : PA X es (tAs C mr)) (hs : starEach (e :: es) X.env = (false, eval e X.env) :: starEach es X.env := by rfl) : PA X (e :: es) (tAs C (aCons (mVc m) mr)) := a_consV (pv_cell ha) hr hs
def allD : List Vl → Option (List PyData)
  | [] => some []
  | .d x :: r => match allD r with
    | some xs => some (x :: xs)
    | none => none
  | _ :: _ => none
theorem allD_ok {K : Kw} : ∀ {xs : List Vl} {vs : List V} {ds : List PyData}, VokAll K F μ xs vs → allD xs = some ds → DqAll K F vs ds
  | _, _, _, .nil, e => by cases e; exact .nil
  | x :: xs, _, _, .cons h r, e => by
    cases x with
    | c i => cases e
    | s i => cases e
    | o i => cases e
    | d x =>
      unfold allD at e
      cases q : allD xs with
      | none => simp only [q] at e; cases e
      | some ys => simp only [q] at e; cases e; exact .cons h (allD_ok r q)
def mTup (ma : En → Sto → Res (List Vl)) : Ev := fun ρ st => (ma ρ st).bind fun xs s => match allD xs with
  | some ds => if ds.length ≤ sizeLine then .ok (.d (.tuple ds)) s else .no
  | none => .no
def mLst (ma : En → Sto → Res (List Vl)) : Ev := fun ρ st => (ma ρ st).bind fun xs s => match allD xs with
  | some ds => if ds.length ≤ sizeLine then .ok (.n (.l ds)) s else .no
  | none => .no
variable {mas : En → Sto → Res (List Vl)}
theorem s_tup {k} (h : PA X es (tAs C mas)) : PE X (.Tuple es k pos) (tM C (mTup mas)) := (pe_tup h).imp fun σ H Q ⟨ρ, st, μ, F, h1, h2, h3⟩ => ⟨ρ, st, μ, F, h1, h2, Post.bindA gE_lat h3 fun x s v μ1 F1 H1 x1 r1 k1 h4 => by
  cases q : allD x with
  | none => simp only [q] at h4; exact False.elim h4
  | some ds =>
    simp only [q] at h4
    have r := allD_ok k1 q
    split at h4
    · exact ⟨by rw [r.length]; assumption, fun p hp => fin_t r1 h4 hp r⟩
    · exact False.elim h4⟩
theorem s_lst (h : PA X es (tAs C mas)) : PE X (.List es pos) (tM C (mLst mas)) := (pe_lst h).imp fun σ H Q ⟨ρ, st, μ, F, h1, h2, h3⟩ => ⟨ρ, st, μ, F, h1, h2, Post.bindA gE_lat h3 fun x s v μ1 F1 H1 x1 r1 k1 h4 => by
  cases q : allD x with
  | none => simp only [q] at h4; exact False.elim h4
  | some ds =>
    simp only [q] at h4
    have r := allD_ok k1 q
    split at h4
    · exact ⟨by rw [r.length]; assumption, fun p hp => fin_n r1 h4 hp ⟨_, rfl, r⟩⟩
    · exact False.elim h4⟩
/-! ### slices -/
def oNone : En → Sto → Res (Option Int) := fun _ st => .ok none st
def oSome (m : Ev) : En → Sto → Res (Option Int) := fun ρ st => (mV m ρ st).bind fun x s => match x with
  | .d (.int i) => .ok (some i) s
  | _ => .no
theorem _root_.L2.PO.imp {o : Option Expr} {t t' : TO} (h : PO X o t) (w : ∀ σ H Q, t' σ H Q → t σ H Q) : PO X o t' := ⟨fun pins s σ H Q I h' => h.run pins s σ H Q I (w σ H Q h')⟩
def cutD (xs : List PyData) (lo hi : Option Int) : List PyData := (xs.drop (HT.sIx xs.length 0 lo)).take (HT.sIx xs.length xs.length hi - HT.sIx xs.length 0 lo)
def fSl (a : PyData) (lo hi : Option Int) : Option Rv := match a with
  | .list xs => some (.n (.l (cutD xs lo hi)))
  | .tuple xs => some (.d (.tuple (cutD xs lo hi)))
  | .str z => if z.length ≤ sizeLine then some (.d (.str (cutS z lo hi))) else none
  | _ => none
def mSl (ma : Ev) (ml mh : En → Sto → Res (Option Int)) : Ev := fun ρ st => (mV ma ρ st).bind fun x s1 => (ml ρ s1).bind fun l s2 => (mh ρ s2).bind fun h s3 => match view s3 x with
  | some d => match fSl d l h with
    | some r => .ok r s3
    | none => .no
  | none => .no
end
end Cp
/-! Cs: data read off the heap, sorted, shown. -/
namespace Cp
open PySem L2
section
variable {X : Cx} {pins : List (Addr × Obj)} {σ : St} {H F : Hp} {s : Shared} {K : Kw}
theorem key_reads {P : Program} {w : World} {h : Heap} (k : Key) (v : Value) (e : (mixKind P w).is k v = true) : Reads h v (kD k) [] := by
  rcases keyIs_shape (k := k) (v := v) e with ⟨i, t, rfl, rfl⟩ | ⟨x, t, rfl, rfl⟩
  · exact .int i t
  · exact .str x t
mutual
theorem Dq.reads (I : Inv X pins σ H s) : ∀ {v : V} {d : PyData} {u : Value}, Dq K H v d → RelV v u → d.hasDict = false → ∃ as, Reads s.heap u d as
  | _, _, _, .non, r, _ => by cases r; exact ⟨_, .none⟩
  | _, _, _, .bl b, r, _ => by cases r; exact ⟨_, .bool b⟩
  | _, _, _, .int i, r, _ => by obtain ⟨t, rfl⟩ := r; exact ⟨_, .int i t⟩
  | _, _, _, .str x, r, _ => by obtain ⟨t, rfl⟩ := r; exact ⟨_, .str x t⟩
  | _, _, _, .lst h q, r, n => by
    cases r
    obtain ⟨its, rv, ⟨o, k, ho, hc, _, hd⟩, _⟩ := I.list (SqL.of h)
    obtain ⟨as, hr⟩ := DqAll.reads I q rv n
    exact ⟨_, .list ho hc hd hr⟩
  | _, _, _, .tup h q, r, n => by
    cases r
    obtain ⟨its, rv, ⟨o, ho, hc, k, hd⟩, _⟩ := I.tuple (.inl h)
    obtain ⟨as, hr⟩ := DqAll.reads I q rv n
    exact ⟨_, .tuple ho hc hd hr⟩
  | _, _, _, .dic _ _, _, n => by cases n
  | _, _, _, .dig _ _ _ _, _, n => by cases n
  | _, _, _, .ins _ _ _, _, n => by cases n
  | _, _, _, .exn0 _, _, n => by cases n
  | _, _, _, .exn _ _ _, _, n => by cases n
theorem DqAll.reads (I : Inv X pins σ H s) : ∀ {vs : List V} {ds : List PyData} {us : List Value}, DqAll K H vs ds → Vals vs us → PyData.hasDictAll ds = false → ∃ as, ReadsAll s.heap us ds as
  | _, _, _, .nil, r, _ => by cases r; exact ⟨_, .nil⟩
  | _, _, _, .cons h q, r, n => by
    have n' : (PyData.hasDict _ || PyData.hasDictAll _) = false := n
    rw [Bool.or_eq_false_iff] at n'
    cases r with
    | cons r1 r2 =>
      obtain ⟨as, q1⟩ := Dq.reads I h r1 n'.1
      obtain ⟨bs, q2⟩ := DqAll.reads I q r2 n'.2
      exact ⟨_, .cons q1 q2⟩
end
end
/-! ### sorted of a list or a tuple -/
end Cp
/-! Cp4: calls of built-in functions. -/
namespace Cp
open PySem L2
section
variable {X : Cx} {C : Cn} {Q : VK} {μ : Mu} {F H : Hp} {st : Sto} {e a b c : Expr} {m ma mb mc : Ev} {pos p : Pos} {es : List Expr} {mas : En → Sto → Res (List Vl)} {x : Str} {id T : String}
def CallOk (C : Cn) (r : List V → Hp → VK → Prop) (g : Sto → List Vl → Option Rv) : Prop :=
  ∀ (xs : List Vl) (res : Rv) (vs : List V) (μ : Mu) (F H : Hp) (st : Sto) (Q : VK), SR C.K μ F H st → VokAll C.K F μ xs vs → g st xs = some res → PostE C Q μ F H (.ok res st) → r vs H Q
def mCal (g : Sto → List Vl → Option Rv) (ma : En → Sto → Res (List Vl)) : Ev := fun ρ st => (ma ρ st).bind fun xs s => match g s xs with
  | some r => .ok r s
  | none => .no
theorem s_args {r : List V → Hp → VK → Prop} {g : Sto → List Vl → Option Rv} (h : PE X e (tCB r (tAs C mas))) (ok : CallOk C r g) : PE X e (tM C (mCal g mas)) :=
  h.imp fun σ H Q ⟨ρ, st, μ, F, h1, h2, h3⟩ => ⟨ρ, st, μ, F, h1, h2, Post.bindA gE_lat h3 fun x s v μ1 F1 H1 x1 r1 k1 h4 => by
    cases q : g s x with
    | none => simp only [q] at h4; exact False.elim h4
    | some res => simp only [q] at h4; exact ok x res v μ1 F1 H1 s _ r1 k1 q h4⟩
theorem s_callB {r : List V → Hp → VK → Prop} {g : Sto → List Vl → Option Rv} (hc : CallR X (.builtin id) r) (ok : CallOk C r g) (hg : Gl X x) (hm : X.mg x = none) (hv : bootBuiltins x = some (.builtin id)) (ha : PA X (e :: es) (tAs C mas)) (hn : x ≠ "__name__" := by decide) (hdb : (x == ("__debug__" : Str)) = false := by decide)
    (he : starEach (e :: es) X.env = (false, eval e X.env) :: starEach es X.env := by rfl) (hpl : (backTo pos (starEach es X.env)).any (·.1) = false := by rfl) : PE X (.Call (.Name x p) (e :: es) [] pos) (tM C (mCal g mas)) := s_args (pe_callB hc hg hm hv ha hn hdb he hpl) ok
theorem s_callTy {r : List V → Hp → VK → Prop} {g : Sto → List Vl → Option Rv} (hc : CallR X (.type T) r) (ok : CallOk C r g) (hg : Gl X x) (hm : X.mg x = none) (hv : bootBuiltins x = some (.type T)) (ha : PA X (e :: es) (tAs C mas)) (hn : x ≠ "__name__" := by decide) (hdb : (x == ("__debug__" : Str)) = false := by decide)
    (he : starEach (e :: es) X.env = (false, eval e X.env) :: starEach es X.env := by rfl) (hpl : (backTo pos (starEach es X.env)).any (·.1) = false := by rfl) : PE X (.Call (.Name x p) (e :: es) [] pos) (tM C (mCal g mas)) := s_args (pe_callTy hc hg hm hv ha hn hdb he hpl) ok
theorem VokAll.one {K : Kw} {y : Vl} {vs : List V} (h : VokAll K F μ [y] vs) : ∃ v, vs = [v] ∧ Vok K F μ y v := by cases h with | cons h r => cases r; exact ⟨_, rfl, h⟩
theorem VokAll.two {K : Kw} {y z : Vl} {vs : List V} (h : VokAll K F μ [y, z] vs) : ∃ v u, vs = [v, u] ∧ Vok K F μ y v ∧ Vok K F μ z u := by
  cases h with
  | cons h r =>
    cases r with
    | cons h2 r => cases r; exact ⟨_, _, rfl, h, h2⟩
/-- a function of one value's content -/
def g1 (f : PyData → Option Rv) : Sto → List Vl → Option Rv
  | s, [y] => match view s y with
    | some d => f d
    | none => none
  | _, _ => none
theorem g1_ok {r : List V → Hp → VK → Prop} {f : PyData → Option Rv}
    (h : ∀ (d : PyData) (res : Rv) (v : V) (μ : Mu) (F H : Hp) (st : Sto) (Q : VK), SR C.K μ F H st → Vw C.K F H v d → f d = some res → PostE C Q μ F H (.ok res st) → r [v] H Q) : CallOk C r (g1 f) := by
  intro xs res vs μ F H st Q s k e p
  unfold g1 at e
  split at e
  · obtain ⟨v, rfl, hv⟩ := k.one
    split at e
    · rename_i hq
      exact h _ res v μ F H _ Q s (view_ok s hv hq) e p
    · cases e
  · cases e
/-- .. of two ints -/
def gII (f : Int → Int → Int) : Sto → List Vl → Option Rv
  | _, [.d (.int i), .d (.int j)] => some (.d (.int (f i j)))
  | _, _ => none
theorem gII_ok {r : List V → Hp → VK → Prop} {f : Int → Int → Int} (h : ∀ (i j : Int) (H : Hp) (Q : VK), Q (.int (f i j)) H → r [.int i, .int j] H Q) : CallOk C r (gII f) := by
  intro xs res vs μ F H st Q s k e p
  unfold gII at e
  split at e
  · obtain ⟨v, u, rfl, hv, hu⟩ := k.two
    cases e
    cases (show Dq C.K F v (.int _) from hv)
    cases (show Dq C.K F u (.int _) from hu)
    exact h _ _ H Q (fin_d s p (.int _))
  · cases e
def fAbs : PyData → Option Rv
  | .int i => some (.d (.int (if i < 0 then -i else i)))
  | _ => none
theorem c_abs : CallR X (.builtin "abs") (fun xs H Q => ∃ i, xs = [.int i] ∧ Q (.int (if i < 0 then -i else i)) H) ∧ CallOk C (fun xs H Q => ∃ i, xs = [.int i] ∧ Q (.int (if i < 0 then -i else i)) H) (g1 fAbs) :=
  ⟨call_abs, g1_ok fun d res v μ F H st Q s w e p => by
    cases d with
    | int i => cases e; exact ⟨i, by rw [w.int], fin_d s p (.int _)⟩
    | _ => cases e⟩
/-- len -/
def fLen : PyData → Option Rv
  | .str y => if y.length ≤ sizeLine then some (.d (.int y.length)) else none
  | .list xs => some (.d (.int xs.length))
  | .tuple xs => some (.d (.int xs.length))
  | _ => none
def gLen : Sto → List Vl → Option Rv
  | _, [.s ns] => some (.d (.int ns.length))
  | s, xs => g1 fLen s xs
theorem gLen_ok (hK : C.K = X.K) : CallOk C (fun xs H Q => ∃ x n, xs = [x] ∧ LenV X.K x H n ∧ Q (.int n) H) gLen := by
  intro xs res vs μ F H st Q s k e p
  unfold gLen at e
  split at e
  · obtain ⟨v, rfl, q, rfl, hq⟩ := k.one
    cases e
    exact ⟨_, _, rfl, .inl ⟨_, hK ▸ s.sub.seq hq, by rw [List.length_map]⟩, fin_d s p (.int _)⟩
  · refine g1_ok (C := C) (r := fun xs H Q => ∃ x n, xs = [x] ∧ LenV X.K x H n ∧ Q (.int n) H) (fun d res v μ F H st Q s w e p => ?_) xs res vs μ F H _ Q s k e p
    cases d with
    | str y =>
      simp only [fLen] at e
      split at e
      · cases e; exact ⟨_, _, rfl, by rw [w.str]; exact ⟨by assumption, rfl⟩, fin_d s p (.int _)⟩
      · cases e
    | list ys =>
      cases e
      obtain ⟨q, zs, rfl, q1, q2⟩ := w
      exact ⟨_, _, rfl, .inl ⟨zs, SqL.of q1, q2.length.symm⟩, fin_d s p (.int _)⟩
    | tuple ys =>
      cases e
      obtain ⟨q, zs, rfl, q1, q2⟩ := w.tup
      exact ⟨_, _, rfl, .inr ⟨zs, SqT.rd s.sub q1, q2.length.symm⟩, fin_d s p (.int _)⟩
    | _ => cases e
/-- int of an int, a bool -/
def fInt : PyData → Option Rv
  | .int i => some (.d (.int i))
  | .bool k => some (.d (.int (if k then 1 else 0)))
  | _ => none
theorem fInt_ok : CallOk C (fun xs H Q => (∃ i, xs = [.int i] ∧ Q (.int i) H) ∨ ∃ k, xs = [.bl k] ∧ Q (.int (if k then 1 else 0)) H) (g1 fInt) := g1_ok fun d res v μ F H st Q s w e p => by
  cases d with
  | int i => cases e; exact .inl ⟨i, by rw [w.int], fin_d s p (.int _)⟩
  | bool i => cases e; exact .inr ⟨i, by rw [w.bl], fin_d s p (.int _)⟩
  | _ => cases e
/-- str of an int -/
def fStr : PyData → Option Rv
  | .int i => if i.natAbs.log2 < 1920 then some (.d (.str (toString i))) else none
  | _ => none
def fTuple : PyData → Option Rv
  | .list xs => some (.d (.tuple xs))
  | .tuple xs => some (.d (.tuple xs))
  | _ => none
end
/-! ### sorted -/
/-! ### repr -/
section
mutual
def noLst : PyData → Bool
  | .list xs => noLstA xs
  | .tuple xs => noLstA xs
  | .dict kvs => flK kvs && noLstK kvs
  | _ => true
def noLstA : List PyData → Bool
  | [] => true
  | x :: xs => noLst x && noLstA xs
def noLstK : List (PyData × PyData) → Bool
  | [] => true
  | (_, x) :: xs => noLst x && noLstK xs
end
variable {X : Cx} {C : Cn} {pins : List (Addr × Obj)} {σ : St} {H F : Hp} {s : Shared} {K : Kw}
/-- the table of modules is a dict -/
def SysK (K : PySem.W.Frag) : Prop := ∃ o es n, K.lookup sysModules = some o ∧ o.data = .dict es n
mutual
theorem Dq.sys (hS : SysK X.K) (I : Inv X pins σ H s) : ∀ {v : V} {d : PyData} {u : Value}, Dq K H v d → RelV v u → noLst d = true → ∃ as, Reads s.heap u d as ∧ sysModules ∉ as
  | _, _, _, .non, r, _ => by cases r; exact ⟨_, .none, by simp⟩
  | _, _, _, .bl b, r, _ => by cases r; exact ⟨_, .bool b, by simp⟩
  | _, _, _, .int i, r, _ => by obtain ⟨t, rfl⟩ := r; exact ⟨_, .int i t, by simp⟩
  | _, _, _, .str x, r, _ => by obtain ⟨t, rfl⟩ := r; exact ⟨_, .str x t, by simp⟩
  | _, _, _, .lst (a := a) h q, r, n => by
    cases r
    obtain ⟨its, rv, ⟨o, k, ho, hc, _, hd⟩, _⟩ := I.list (SqL.of h)
    obtain ⟨as, hr, hs⟩ := DqAll.sys hS I q rv (by simpa [noLst] using n)
    refine ⟨_, .list ho hc hd hr, ?_⟩
    rw [List.mem_cons, not_or]
    refine ⟨fun e => ?_, hs⟩
    subst e
    obtain ⟨o', es, m, g1, g2⟩ := hS
    rw [I.kIn _ _ g1] at ho
    cases ho
    rw [g2] at hd; cases hd
  | _, _, _, .tup h q, r, n => by
    cases r
    obtain ⟨its, rv, ⟨o, ho, hc, n', hd⟩, _⟩ := I.tuple (.inl h)
    obtain ⟨as, hr, hs⟩ := DqAll.sys hS I q rv (by simpa [noLst] using n)
    exact ⟨_, .tuple ho hc hd hr, hs⟩
  | _, _, _, .dic h q, r, n => by
    cases r
    obtain ⟨_, na, vs, kv, hd⟩ := I.hok _ _ h
    have n' : (flK _ && noLstK _) = true := n
    rw [Bool.and_eq_true] at n'
    obtain ⟨bs, p, hs⟩ := DqKv.sys hS I q kv n'.2
    refine ⟨_, PyProof.V.reads_dictOf (fun k v e => key_reads k v e) hd p, ?_⟩
    rw [List.mem_cons, not_or]
    exact ⟨fun e => by rw [← e] at na; simp at na, hs⟩
  | _, _, _, .dig h q _ z, r, n => by
    have n' : (flK _ && noLstK _) = true := n
    rw [Bool.and_eq_true] at n'
    cases q with
    | nil => exact absurd rfl z
    | cons g _ _ _ _ =>
      have f := n'.1
      unfold flK at f
      rw [List.all_cons, Bool.and_eq_true] at f
      cases g <;> exact absurd f.1 Bool.false_ne_true
  | _, _, _, .ins _ _ _, _, n => by cases n
  | _, _, _, .exn0 _, _, n => by cases n
  | _, _, _, .exn _ _ _, _, n => by cases n
theorem DqAll.sys (hS : SysK X.K) (I : Inv X pins σ H s) : ∀ {vs : List V} {ds : List PyData} {us : List Value}, DqAll K H vs ds → Vals vs us → noLstA ds = true → ∃ as, ReadsAll s.heap us ds as ∧ sysModules ∉ as
  | _, _, _, .nil, r, _ => by cases r; exact ⟨_, .nil, by simp⟩
  | _, _, _, .cons h q, r, n => by
    rw [noLstA, Bool.and_eq_true] at n
    cases r with
    | cons r1 r2 =>
      obtain ⟨as, q1, s1⟩ := Dq.sys hS I h r1 n.1
      obtain ⟨bs, q2, s2⟩ := DqAll.sys hS I q r2 n.2
      exact ⟨_, .cons q1 q2, by rw [List.mem_append, not_or]; exact ⟨s1, s2⟩⟩
theorem DqKv.sys (hS : SysK X.K) (I : Inv X pins σ H s) : ∀ {ws : List (Key × V)} {kvs : List (PyData × PyData)} {us : List (Key × Value)}, DqKv K H ws kvs → KV ws us → noLstK kvs = true → ∃ bs, PyProof.V.PairsRead s.heap kD us kvs bs ∧ sysModules ∉ bs
  | _, _, _, .nil, r, _ => by cases r; exact ⟨_, .nil, by simp⟩
  | _, _, _, .cons h q, r, n => by
    rw [noLstK, Bool.and_eq_true] at n
    cases r with
    | cons r1 r2 =>
      obtain ⟨k', v'⟩ := ‹Key × Value›
      obtain ⟨e, r1⟩ := r1
      cases e
      obtain ⟨as, q1, s1⟩ := Dq.sys hS I h r1 n.1
      obtain ⟨bs, q2, s2⟩ := DqKv.sys hS I q r2 n.2
      exact ⟨_, .cons q1 q2, by rw [List.mem_append, not_or]; exact ⟨s1, s2⟩⟩
end
/-- what can be shown -/
def shw (d : PyData) : Bool := d.showable && (!d.hasDict || noLst d) && decide (d.shown.length ≤ sizeLine) && decide (d.depth ≤ 60)
def fRepr (d : PyData) : Option Rv := if shw d then some (.d (.str d.shown)) else none
def rRepr : List V → Hp → VK → Prop := fun vs H Q => ∃ (K : Kw) (v : V) (d : PyData), vs = [v] ∧ Dq K H v d ∧ shw d = true ∧ Q (.str d.shown) H
theorem cr_repr (hS : SysK X.K) (hu : X.A.units + 64 < cLine) (hg : X.A.guards = some []) : CallR X (.builtin "repr") rRepr := by
  intro pins s σ H vs us Q I r h
  obtain ⟨K, v, d, rfl, hd, hs, q⟩ := h
  obtain ⟨u, rfl, ru⟩ := vals1 r
  unfold shw at hs
  simp only [Bool.and_eq_true, Bool.or_eq_true, decide_eq_true_eq, Bool.not_eq_true'] at hs
  obtain ⟨⟨⟨h1, h2⟩, h3⟩, h4⟩ := hs
  obtain ⟨as, hr, hm⟩ : ∃ as, Reads s.heap u d as ∧ (d.hasDict = true → sysModules ∉ as) := by
    rcases h2 with h2 | h2
    · obtain ⟨as, hr⟩ := hd.reads I ru h2
      exact ⟨as, hr, fun z => by rw [h2] at z; cases z⟩
    · obtain ⟨as, hr, hz⟩ := hd.sys hS I ru h2
      exact ⟨as, hr, fun _ => hz⟩
  have go : ∀ a, u = Value.ref a → wpAny (model X.prog X.w) X.A (call (.builtin "repr") [u]) (EP X pins σ Q) X.xe s := fun a e => by
    subst e
    exact PySem.repr_of_reads' hr h1 hm hg (by omega) (fun _ _ e => e) (fun h' t tk hk => ⟨.str d.shown, H, I.kept hk, ⟨t, rfl⟩, q⟩) h3
  cases hd with
  | non => cases ru; exact PySem.P.repr_of_none ⟨.str "None", H, I.tok _, ⟨_, rfl⟩, by simpa [PyData.shown] using q⟩
  | bl b => cases ru; exact PySem.P.repr_of_bool ⟨.str (if b then "True" else "False"), H, I.tok _, ⟨_, rfl⟩, by simpa [PyData.shown] using q⟩
  | int i =>
    obtain ⟨t, rfl⟩ := ru
    exact PySem.P.repr_of_int (by simpa [PyData.showable] using h1) ⟨.str (toString i), H, I.tok _, ⟨_, rfl⟩, by simpa [PyData.shown] using q⟩
  | str x =>
    obtain ⟨t, rfl⟩ := ru
    exact PySem.P.repr_of_str ⟨.str (reprText x), H, I.tok _, ⟨_, rfl⟩, by simpa [PyData.shown] using q⟩ (by simpa [PyData.shown] using h3)
  | lst _ _ => exact go _ ru
  | tup _ _ => exact go _ ru
  | dic _ _ => exact go _ ru
  | dig _ _ _ _ => exact go _ ru
  | ins _ _ _ => exact go _ ru
  | exn0 _ => exact go _ ru
  | exn _ _ _ => exact go _ ru
theorem fRepr_ok : CallOk C rRepr (g1 fRepr) := g1_ok fun d res v μ F H st Q s w e p => by
  unfold fRepr at e
  split at e
  · cases e; exact ⟨C.K, v, d, rfl, w.dq s.sub, by assumption, fin_d s p (.str _)⟩
  · cases e
end
end Cp
/-! Cp5: statements. -/
namespace Cp
open PySem L2
/-- how a statement ends -/
inductive RS where
  | nx (ρ : En) (s : Sto)
  | bk (ρ : En) (s : Sto)
  | ct (ρ : En) (s : Sto)
  | rt (r : Rv) (s : Sto)
  | er (e : Er) (s : Sto)
  | no
abbrev Sv := En → Sto → RS
def gN (C : Cn) (P : St → Hp → Prop) (ρ : En) (st : Sto) (μ : Mu) (F H : Hp) : Prop := ∀ σ' μ' F' H', Ext μ F H μ' F' H' → SR C.K μ' F' H' st → Eok C.K F' μ' ρ σ' → P σ' H'
def PostS (C : Cn) (D : Ends) (μ : Mu) (F H : Hp) : RS → Prop
  | .nx ρ s => gN C D.nx ρ s μ F H
  | .bk ρ s => gN C D.bk ρ s μ F H
  | .ct ρ s => gN C D.ct ρ s μ F H
  | .rt r s => gE C D.rt r s μ F H
  | .er e s => Erw C μ F H e s
  | .no => False
def tS (C : Cn) (m : Sv) : TS := fun D σ H => At C σ H fun ρ st μ F => PostS (C.at σ) D μ F H (m ρ st)
section
variable {X : Cx} {C : Cn} {Q : VK} {μ μ1 : Mu} {F H F1 H1 : Hp} {st : Sto} {e a b c : Expr} {m ma mb mc : Ev} {pos p : Pos} {es : List Expr} {D : Ends} {s t : Stmt} {ss : List Stmt} {sa sb : Sv}
theorem gN.later {P : St → Hp → Prop} {ρ : En} (x : Ext μ F H μ1 F1 H1) (h : gN C P ρ st μ F H) : gN C P ρ st μ1 F1 H1 := fun σ' μ' F' H' y s k => h σ' μ' F' H' (x.trans y) s k
theorem PostS.later {r : RS} (x : Ext μ F H μ1 F1 H1) (h : PostS C D μ F H r) : PostS C D μ1 F1 H1 r := by
  cases r with
  | nx ρ s => exact gN.later x h
  | bk ρ s => exact gN.later x h
  | ct ρ s => exact gN.later x h
  | rt r s => exact gE_lat.it x h
  | er e s => exact Erw.later x h
  | no => exact h
theorem _root_.L2.PS.imp {t' u : TS} (h : PS X s t') (w : ∀ D σ H, u D σ H → t' D σ H) : PS X s u := ⟨fun pins s σ H D I h' => h.run pins s σ H D I (w D σ H h')⟩
theorem _root_.L2.PSs.imp {t' u : TS} (h : PSs X ss t') (w : ∀ D σ H, u D σ H → t' D σ H) : PSs X ss u := ⟨fun pins s σ H D I h' => h.run pins s σ H D I (w D σ H h')⟩
/-- what a sub-meaning gives, then a statement's rest -/
@[reducible] def Res.toS {α : Type} (r : Res α) (k : α → Sto → RS) : RS := match r with
  | .ok a s => k a s
  | .er e s => .er e s
  | .no => .no
theorem PostS.bindV {m : Res Vl} {k : Vl → Sto → RS} {Q : VK} (h : PostS C D μ F H (m.toS k))
    (hk : ∀ x s v μ1 F1 H1, Ext μ F H μ1 F1 H1 → SR C.K μ1 F1 H1 s → Vok C.K F1 μ1 x v → PostS C D μ1 F1 H1 (k x s) → Q v H1) : PostV C Q μ F H m := by
  cases m with
  | ok x s => exact fun v μ1 F1 H1 e s1 o => hk x s v μ1 F1 H1 e s1 o (PostS.later e h)
  | er e s => exact h
  | no => exact h
theorem PostS.bindE {m : Res Rv} {k : Rv → Sto → RS} {Q : VK} (h : PostS C D μ F H (m.toS k))
    (hk : ∀ x s v μ1 F1 H1, Out C.K μ F H s x v μ1 F1 H1 → PostS C D μ F H (k x s) → Q v H1) : PostE C Q μ F H m := by
  cases m with
  | ok x s => exact fun v μ1 F1 H1 o => hk x s v μ1 F1 H1 o h
  | er e s => exact h
  | no => exact h
theorem PostS.bindB {m : Res Bool} {k : Bool → Sto → RS} {Q : Bool → Hp → Prop} (h : PostS C D μ F H (m.toS k))
    (hk : ∀ x s μ1 F1 H1, Ext μ F H μ1 F1 H1 → SR C.K μ1 F1 H1 s → PostS C D μ1 F1 H1 (k x s) → Q x H1) : PostB C Q μ F H m := by
  cases m with
  | ok x s => exact fun μ1 F1 H1 e s1 => hk x s μ1 F1 H1 e s1 (PostS.later e h)
  | er e s => exact h
  | no => exact h
theorem PostS.bindA {m : Res (List Vl)} {k : List Vl → Sto → RS} {Q : List V → Hp → Prop} (h : PostS C D μ F H (m.toS k))
    (hk : ∀ x s v μ1 F1 H1, Ext μ F H μ1 F1 H1 → SR C.K μ1 F1 H1 s → VokAll C.K F1 μ1 x v → PostS C D μ1 F1 H1 (k x s) → Q v H1) : PostA C Q μ F H m := by
  cases m with
  | ok x s => exact fun v μ1 F1 H1 e s1 o => hk x s v μ1 F1 H1 e s1 o (PostS.later e h)
  | er e s => exact h
  | no => exact h
theorem Erw.flat {σ σ' : St} (fl : C.Flat) {e : Er} {st : Sto} (h : Erw (C.at σ) μ F H e st) : Erw (C.at σ') μ F H e st := fun cls dd μ' F' H' x s o => fl _ _ _ _ _ (h cls dd μ' F' H' x s o)
theorem PostS.flat {σ σ' : St} (fl : C.Flat) {r : RS} (h : PostS (C.at σ) D μ F H r) : PostS (C.at σ') D μ F H r := by
  cases r with
  | er e s => exact Erw.flat fl h
  | nx ρ s => exact h
  | bk ρ s => exact h
  | ct ρ s => exact h
  | rt r s => exact h
  | no => exact h
/-! ### blocks -/
def sNil : Sv := fun ρ st => .nx ρ st
def sSeq (x y : Sv) : Sv := fun ρ st => match x ρ st with
  | .nx ρ' s => y ρ' s
  | r => r
theorem x_nil : PSs X [] (tS C sNil) := pss_nil.imp fun D σ H ⟨ρ, st, μ, F, h1, h2, h3⟩ => h3 σ μ F H Ext.refl h2 h1
theorem x_cons (ha : PS X s (tS C sa)) (hb : PSs X ss (tS C sb)) (fl : C.Flat := by exact fun _ _ _ _ _ h => h) : PSs X (s :: ss) (tS C (sSeq sa sb)) := (pss_cons ha hb).imp fun D σ H ⟨ρ, st, μ, F, h1, h2, h3⟩ => ⟨ρ, st, μ, F, h1, h2, by
  show PostS (C.at σ) { D with nx := tS C sb D } μ F H (sa ρ st)
  simp only [sSeq] at h3
  cases q : sa ρ st with
  | nx ρ' s' =>
    simp only [q] at h3
    exact fun σ' μ' F' H' x r k => ⟨ρ', s', μ', F', k, r, PostS.flat fl (PostS.later x h3)⟩
  | bk ρ' s' => simp only [q] at h3; exact h3
  | ct ρ' s' => simp only [q] at h3; exact h3
  | rt r s' => simp only [q] at h3; exact h3
  | er r s' => simp only [q] at h3; exact h3
  | no => simp only [q] at h3; exact h3⟩
theorem x_one (ha : PS X s (tS C sa)) : PSs X [s] (tS C sa) := pss_one ha
def sExp (m : Ev) : Sv := fun ρ st => (m ρ st).toS fun _ s => .nx ρ s
theorem x_expr (h : PE X e (tM C m)) (hs : swapsWith e none pos.line X.env = pure false := by rfl) : PS X (.Expr e pos) (tS C (sExp m)) := (ps_expr h hs).imp fun D σ H ⟨ρ, st, μ, F, h1, h2, h3⟩ =>
  ⟨ρ, st, μ, F, h1, h2, PostS.bindE h3 fun x s v μ1 F1 H1 o h4 => h4 σ μ1 F1 H1 o.ext o.sr (h1.ext o.ext)⟩
def sRet (m : Ev) : Sv := fun ρ st => (m ρ st).toS fun r s => .rt r s
theorem x_ret (h : PE X e (tM C m)) : PS X (.Return (some e) pos) (tS C (sRet m)) := (ps_ret h).imp fun D σ H ⟨ρ, st, μ, F, h1, h2, h3⟩ => ⟨ρ, st, μ, F, h1, h2, PostS.bindE h3 fun x s v μ1 F1 H1 o h4 => h4 v μ1 F1 H1 o⟩
def sRetN : Sv := fun _ st => .rt (.d .none) st
def sIf (c : En → Sto → Res Bool) (x y : Sv) : Sv := fun ρ st => (c ρ st).toS fun k s => if k = true then x ρ s else y ρ s
theorem x_if {bc : En → Sto → Res Bool} {A B : List Stmt} (hc : PT X c (tT C bc)) (ha : PSs X A (tS C sa)) (hb : PSs X B (tS C sb)) : PS X (.If c A B pos) (tS C (sIf bc sa sb)) := (ps_if hc ha hb).imp fun D σ H ⟨ρ, st, μ, F, h1, h2, h3⟩ =>
  ⟨ρ, st, μ, F, h1, h2, PostS.bindB h3 fun k s μ1 F1 H1 x r h4 => by
    cases k with
    | true => simp only [if_true] at h4 ⊢; exact ⟨ρ, s, μ1, F1, h1.ext x, r, h4⟩
    | false => simp only [Bool.false_eq_true, if_false] at h4 ⊢; exact ⟨ρ, s, μ1, F1, h1.ext x, r, h4⟩⟩
/-! ### targets: where a value goes; the slots ws alone change -/
def Agr (ws : List Nat) (σ σ' : St) : Prop := σ'.length = σ.length ∧ ∀ j, j ∉ ws → σ'[j]? = σ[j]?
abbrev Gm := Vl → En → Sto → Res En
abbrev gG (C : Cn) (ws : List Nat) (σ : St) (P : St → Hp → Prop) : En → Sto → Mu → Hp → Hp → Prop := fun ρ st μ F H => ∀ σ' μ' F' H', Ext μ F H μ' F' H' → SR C.K μ' F' H' st → Eok C.K F' μ' ρ σ' → Agr ws σ σ' → P σ' H'
theorem gG_lat {ws : List Nat} {σ : St} {P : St → Hp → Prop} : Lat (gG C ws σ P) := ⟨fun x h σ' μ' F' H' y s k => h σ' μ' F' H' (x.trans y) s k⟩
def tG (C : Cn) (ws : List Nat) (g : Gm) : TG := fun v σ H P => ∃ ρ st μ F x, Eok C.K F μ ρ σ ∧ SR C.K μ F H st ∧ Vok C.K F μ x v ∧ Post (C.at σ) (gG C ws σ P) μ F H (g x ρ st)
theorem _root_.L2.PG.imp {tg : Expr} {t u : TG} (h : PG X tg t) (w : ∀ v σ H Q, u v σ H Q → t v σ H Q) : PG X tg u := ⟨fun pins s σ H v u Q I r h' => h.run pins s σ H v u Q I r (w v σ H Q h')⟩
def gNm (i : Nat) : Gm := fun x ρ st => .ok (ρ.set i (some x)) st
theorem eok_set {K : Kw} {ρ : En} {σ : St} {i : Nat} {x : Vl} {v : V} (h : Eok K F μ ρ σ) (k : Vok K F μ x v) : Eok K F μ (ρ.set i (some x)) (σ.set i (some v)) := by
  refine ⟨by simp [h.1], fun j y e => ?_⟩
  by_cases hj : i = j
  · subst hj
    have hi : i < ρ.length := by
      have := (List.getElem?_eq_some_iff.mp e).1
      simpa using this
    rw [List.getElem?_set_self hi] at e
    cases e
    exact ⟨v, by rw [List.getElem?_set_self (by rw [← h.1]; exact hi)], k⟩
  · rw [List.getElem?_set_ne hj] at e
    obtain ⟨w, h1, h2⟩ := h.2 j y e
    exact ⟨w, by rw [List.getElem?_set_ne hj]; exact h1, h2⟩
theorem agr_set {i : Nat} {σ : St} {v : Option V} : Agr [i] σ (σ.set i v) := ⟨by simp, fun j h => List.getElem?_set_ne (fun e => h (by simp [e]))⟩
theorem t_name {i : Nat} {tg : Expr} (h : PG X tg (gName i)) : PG X tg (tG C [i] (gNm i)) := h.imp fun v σ H Q ⟨ρ, st, μ, F, x, h1, h2, h3, h4⟩ => h4 _ μ F H Ext.refl h2 (eok_set h1 h3) agr_set
/-- several, from a tuple -/
abbrev Gms := List PyData → En → Sto → Res En
def gNil9 : Gms := fun ds ρ st => match ds with
  | [] => .ok ρ st
  | _ :: _ => .no
def gCons9 (g : Gm) (r : Gms) : Gms := fun ds ρ st => match ds with
  | [] => .no
  | d :: ds => (g (.d d) ρ st).bind fun ρ' s => r ds ρ' s
def tGs (C : Cn) (ws : List Nat) (g : Gms) : TGs := fun vs σ H P => ∃ ρ st μ F ds, Eok C.K F μ ρ σ ∧ SR C.K μ F H st ∧ DqAll C.K F vs ds ∧ Post (C.at σ) (gG C ws σ P) μ F H (g ds ρ st)
theorem _root_.L2.PGs.imp {tg : List Expr} {t u : TGs} (h : PGs X tg t) (w : ∀ v σ H Q, u v σ H Q → t v σ H Q) : PGs X tg u := ⟨fun pins s σ H v u Q I r h' => h.run pins s σ H v u Q I r (w v σ H Q h')⟩
theorem t_nil : PGs X [] (tGs C [] gNil9) := pgs_nil.imp fun v σ H Q ⟨ρ, st, μ, F, ds, h1, h2, h3, h4⟩ => by
  cases h3 with
  | nil => exact ⟨rfl, h4 σ μ F H Ext.refl h2 h1 ⟨rfl, fun _ _ => rfl⟩⟩
  | cons _ _ => exact False.elim h4
theorem t_cons {tg : Expr} {tgs : List Expr} {ws ws' : List Nat} {g : Gm} {r : Gms} (h : PG X tg (tG C ws g)) (hr : PGs X tgs (tGs C ws' r)) (hs : (assignEach (tg :: tgs) X.env).map (·.2) = assign tg X.env :: (assignEach tgs X.env).map (·.2) := by rfl) (fl : C.Flat := by exact fun _ _ _ _ _ h => h) :
    PGs X (tg :: tgs) (tGs C (ws ++ ws') (gCons9 g r)) := (pgs_cons h hr hs).imp fun v σ H Q ⟨ρ, st, μ, F, ds, h1, h2, h3, h4⟩ => by
  cases h3 with
  | nil => exact False.elim h4
  | @cons v' vs' d' ds' k kr =>
    refine ⟨_, _, rfl, ρ, st, μ, F, .d d', h1, h2, k, ?_⟩
    have h4 : Post (C.at σ) (gG C (ws ++ ws') σ Q) μ F H ((g (.d d') ρ st).bind fun ρ' s => r ds' ρ' s) := h4
    cases q : g (.d d') ρ st with
    | no => rw [q] at h4; exact h4
    | er e s => rw [q] at h4; exact h4
    | ok ρ1 s1 =>
      rw [q] at h4
      intro σ1 μ1 F1 H1 x1 r1 k1 a1
      refine ⟨ρ1, s1, μ1, F1, ds', k1, r1, kr.same x1.same, ?_⟩
      have h5 := Post.later gG_lat x1 (show Post (C.at σ) (gG C (ws ++ ws') σ Q) μ F H (r ds' ρ1 s1) from h4)
      have wk : ∀ {ρ' s'}, gG C (ws ++ ws') σ Q ρ' s' μ1 F1 H1 → gG C ws' σ1 Q ρ' s' μ1 F1 H1 := fun {ρ' s'} z σ2 μ2 F2 H2 x2 r2 k2 a2 => z σ2 μ2 F2 H2 x2 r2 k2 ⟨a2.1.trans a1.1, fun j hj => by
        rw [List.mem_append, not_or] at hj
        rw [a2.2 j hj.2, a1.2 j hj.1]⟩
      cases q2 : r ds' ρ1 s1 with
      | no => rw [q2] at h5; exact h5
      | er e s => rw [q2] at h5; exact Erw.flat fl h5
      | ok ρ2 s2 => rw [q2] at h5; exact wk h5
def gTp (n : Nat) (r : Gms) : Gm := fun x ρ st => match x with
  | .d (.tuple ds) => if ds.length = n then r ds ρ st else .no
  | _ => .no
theorem t_tup {k : Nat} {ws : List Nat} {r : Gms} {n : Nat} (hc : X.calm = true) (h : PGs X es (tGs C ws r)) (hn : (assignEach es X.env).length = n := by rfl) (hst : (assignEach es X.env).findIdx? (·.1) = none := by rfl) : PG X (.Tuple es k pos) (tG C ws (gTp n r)) :=
  (pg_tup hc h hn hst).imp fun v σ H Q ⟨ρ, st, μ, F, x, h1, h2, h3, h4⟩ => by
    cases x with
    | c i => exact False.elim h4
    | s i => exact False.elim h4
    | o i => exact False.elim h4
    | d x =>
      cases x with
      | tuple ds =>
        cases (show Dq C.K F v (.tuple ds) from h3) with
        | tup q1 q2 =>
          simp only [gTp] at h4
          split at h4
          · rename_i hl
            exact ⟨_, _, rfl, SqT.rd h2.sub q1, by rw [q2.length]; exact hl, ρ, st, μ, F, ds, h1, h2, q2, h4⟩
          · exact False.elim h4
      | _ => exact False.elim h4
/-- a list's place -/
def gPl (mo mi : Ev) : Gm := fun x ρ st => match x with
  | .d d => (mV mo ρ st).bind fun o s1 => (mV mi ρ s1).bind fun i s2 => match o, i with
    | .c k, .d (.int j) => match s2[k]? with
      | some (.l xs) => match ixN xs.length j with
        | some n => .ok ρ (s2.set k (.l (xs.set n d)))
        | none => .no
      | _ => .no
    | _, _ => .no
  | _ => .no
theorem t_pl {o i : Expr} {mo mi : Ev} (ho : PE X o (tM C mo)) (hi : PE X i (tM C mi))
    (ha : ∀ v, assign (.Subscript o i pos) X.env v = (do
      let ov ← holding [v] (eval o X.env)
      let iv ← holding [v, ov] (eval i X.env)
      standAt pos
      holding [v, ov, iv] (setItem ov iv v)
      release [v, ov, iv] []) := by intro _; rfl) : PG X (.Subscript o i pos) (tG C [] (gPl mo mi)) :=
  (pg_sub (pv_frz ho) (pv_frz hi) set_list ha).imp fun v σ H Q ⟨ρ, st, μ, F, x, h1, h2, h3, h4⟩ => by
    cases x with
    | c i => exact False.elim h4
    | s i => exact False.elim h4
    | o i => exact False.elim h4
    | d d =>
      have h4 : Post (C.at σ) (gG C [] σ Q) μ F H ((mV mo ρ st).bind fun o s1 => (mV mi ρ s1).bind fun i s2 => match o, i with
        | .c k, .d (.int j) => match s2[k]? with
          | some (.l xs) => match ixN xs.length j with
            | some n => .ok ρ (s2.set k (.l (xs.set n d)))
            | none => .no
          | _ => .no
        | _, _ => .no) := h4
      refine ⟨ρ, st, μ, F, h1, h2, Post.bindV gG_lat h4 fun o s1 vo μ1 F1 H1 x1 r1 k1 h5 => ⟨ρ, s1, μ1, F1, h1.ext x1, r1, Post.bindV gG_lat h5 fun i s2 vi μ2 F2 H2 x2 r2 k2 h6 => ?_⟩⟩
      have k1 := k1.ext x2
      cases o with
      | d _ => exact False.elim h6
      | s _ => exact False.elim h6
      | o _ => exact False.elim h6
      | c k =>
        cases i with
        | c _ => exact False.elim h6
        | s _ => exact False.elim h6
        | o _ => exact False.elim h6
        | d i =>
          cases i with
          | int j =>
            cases q : s2[k]? with
            | none => simp only [q] at h6; exact False.elim h6
            | some cl =>
              cases cl with
              | m _ => simp only [q] at h6; exact False.elim h6
              | l xs =>
                cases q2 : ixN xs.length j with
                | none => simp only [q, q2] at h6; exact False.elim h6
                | some n =>
                  simp only [q, q2] at h6
                  obtain ⟨p, hp, rfl⟩ := k1
                  obtain ⟨p', o', g1, g2, ys, rfl, g3⟩ := r2.cell k _ q
                  rw [hp] at g1; cases g1
                  cases (show Dq C.K F2 vi (.int j) from k2)
                  have dv : Dq C.K F2 v d := Dq.same (x1.trans x2).same h3
                  obtain ⟨w1, w2⟩ := r2.write (c := .l (xs.set n d)) (o := .lst (ys.set n v)) hp ⟨_, rfl, g3.set dv n⟩ q
                  exact ⟨p, ys, j, n, rfl, rfl, g2, by rw [g3.length]; exact q2, h6 σ μ2 F2 _ w2 w1 (((h1.ext x1).ext x2).ext w2) ⟨rfl, fun _ _ => rfl⟩⟩
          | _ => exact False.elim h6
/-- target = value -/
def sAsg (g : Gm) (mv : En → Sto → Res Vl) : Sv := fun ρ st => (mv ρ st).toS fun x s => (g x ρ s).toS fun ρ' s' => .nx ρ' s'
theorem x_asg {tg : Expr} {ws : List Nat} {g : Gm} {mv : En → Sto → Res Vl} (he : PE X e (tV C mv)) (hg : PG X tg (tG C ws g)) (hs : swapsWithSole [tg] e pos.line X.env = pure false := by rfl) (hw : swappedStores [tg] e X.env = pure none := by rfl)
    (h1 : (assignEach [tg] X.env).map (·.2) = [assign tg X.env] := by rfl) : PS X (.Assign [tg] e pos) (tS C (sAsg g mv)) := (ps_asg he hg hs hw h1).imp fun D σ H ⟨ρ, st, μ, F, h1, h2, h3⟩ =>
  ⟨ρ, st, μ, F, h1, h2, PostS.bindV h3 fun x s v μ1 F1 H1 x1 r1 k1 h4 => ⟨ρ, s, μ1, F1, x, h1.ext x1, r1, k1, by
    cases q : g x ρ s with
    | no => rw [q] at h4; exact h4
    | er e' s' => rw [q] at h4; exact h4
    | ok ρ' s' => rw [q] at h4; exact fun σ' μ' F' H' y r k _ => h4 σ' μ' F' H' y r k⟩⟩
/-- two, three names at once -/
def sPar (is : List Nat) (ma : En → Sto → Res (List Vl)) : Sv := fun ρ st => (ma ρ st).toS fun xs s => match is, xs with
  | [i, j], [x, y] => .nx ((ρ.set i (some x)).set j (some y)) s
  | [i, j, l], [x, y, z] => .nx (((ρ.set i (some x)).set j (some y)).set l (some z)) s
  | _, _ => .no
variable {mas : En → Sto → Res (List Vl)}
theorem x_par {i j : Nat} (h : PS X s (tPar i j (tAs C mas))) : PS X s (tS C (sPar [i, j] mas)) := h.imp fun D σ H ⟨ρ, st, μ, F, h1, h2, h3⟩ => ⟨ρ, st, μ, F, h1, h2, PostS.bindA h3 fun xs s vs μ1 F1 H1 x1 r1 k1 h4 => by
  match xs, k1, h4 with
  | [], _, h4 => exact False.elim h4
  | [_], _, h4 => exact False.elim h4
  | [x, y], k1, h4 =>
    obtain ⟨v, u, rfl, hv, hu⟩ := k1.two
    exact ⟨v, u, rfl, h4 _ μ1 F1 H1 Ext.refl r1 (eok_set (eok_set (h1.ext x1) hv) hu)⟩
  | _ :: _ :: _ :: _, _, h4 => exact False.elim h4⟩
end
end Cp
/-! Cp6: lists that change, what is walked, for, while, comprehensions. -/
namespace Cp
open PySem L2
section
variable {X : Cx} {C : Cn} {Q : VK} {μ μ1 : Mu} {F H F1 H1 : Hp} {st : Sto} {e a b c o tg iter : Expr} {m mo ma mb mc : Ev} {pos p apos cpos : Pos} {es : List Expr} {D : Ends} {s t : Stmt} {ss body : List Stmt} {sa sb : Sv}
/-! ### methods of a list that changes -/
def lstAt (s : Sto) (x : Vl) : Option (List PyData) := match x with
  | .c k => match s[k]? with
    | some (.l xs) => some xs
    | _ => none
  | _ => none
theorem lstAt_get {k : Nat} {xs : List PyData} (e : lstAt st (.c k) = some xs) : st[k]? = some (.l xs) := by
  simp only [lstAt] at e
  split at e
  · rename_i h; cases e; exact h
  · cases e
theorem lstAt_ok {K : Kw} {x : Vl} {v : V} {xs : List PyData} (s : SR K μ F H st) (k : Vok K F μ x v) (e : lstAt st x = some xs) : ∃ i p ys, x = .c i ∧ v = .ref p ∧ μ.l[i]? = some p ∧ H p = some (.lst ys) ∧ DqAll K F ys xs := by
  cases x with
  | d _ => cases e
  | s _ => cases e
  | o _ => cases e
  | c i =>
    obtain ⟨p, hp, rfl⟩ := k
    simp only [lstAt] at e
    cases q : st[i]? with
    | none => simp only [q] at e; cases e
    | some cl =>
      cases cl with
      | m _ => simp only [q] at e; cases e
      | l zs =>
        simp only [q] at e; cases e
        obtain ⟨p', o', g1, g2, ys, rfl, g3⟩ := s.cell i _ q
        rw [hp] at g1; cases g1
        exact ⟨i, p, ys, rfl, rfl, hp, g2, g3⟩
def fApp (xs : List PyData) (d : PyData) : Option (List PyData) := if xs.length < sizeLine then some (xs ++ [d]) else none
def fExt (xs : List PyData) (d : PyData) : Option (List PyData) := match d with
  | .list ys => if xs.length + ys.length ≤ sizeLine then some (xs ++ ys) else none
  | _ => none
/-- x.append(e): e is data (a cell would be shared) -/
def mApp (mo ma : Ev) : Ev := fun ρ st => (mV mo ρ st).bind fun x s1 => match lstAt s1 x with
  | none => .no
  | some _ => (mV ma ρ s1).bind fun y s2 => match x, lstAt s2 x, y with
    | .c k, some xs, .d d => match fApp xs d with
      | some zs => .ok (.d .none) (s2.set k (.l zs))
      | none => .no
    | _, _, _ => .no
theorem s_app (h : PE X e (tBM X.K "list" rAppend (tV C (mV mo)) (tCons (tV C (mV ma)) tNil))) : PE X e (tM C (mApp mo ma)) :=
  h.imp fun σ H Q ⟨ρ, st, μ, F, h1, h2, h3⟩ => ⟨ρ, st, μ, F, h1, h2, Post.bindV gE_lat h3 fun x s v μ1 F1 H1 x1 r1 k1 h4 => by
    cases q : lstAt s x with
    | none => simp only [q] at h4; exact False.elim h4
    | some zs =>
      simp only [q] at h4
      obtain ⟨i, pp, ys, rfl, rfl, g1, g2, g3⟩ := lstAt_ok r1 k1 q
      refine ⟨.inl ⟨rfl, _, SqL.of g2⟩, ρ, s, μ1, F1, h1.ext x1, r1, Post.bindV gE_lat h4 fun y s2 u μ2 F2 H2 x2 r2 k2 h5 => ?_⟩
      have k1' := k1.ext x2
      cases q2 : lstAt s2 (.c i) with
      | none => simp only [q2] at h5; exact False.elim h5
      | some ws =>
        cases y with
        | c _ => simp only [q2] at h5; exact False.elim h5
        | s _ => simp only [q2] at h5; exact False.elim h5
        | o _ => simp only [q2] at h5; exact False.elim h5
        | d d =>
          obtain ⟨i', pp', ys', e1, e2, g1', g2', g3'⟩ := lstAt_ok r2 k1' q2
          cases e1
          cases e2
          simp only [q2, fApp] at h5
          split at h5
          · rename_i zz hz
            split at hz
            · cases hz
              obtain ⟨w1, w2⟩ := r2.write (c := .l (ws ++ [d])) (o := .lst (ys' ++ [u])) g1' ⟨_, rfl, g3'.app (.cons k2 .nil)⟩ (lstAt_get q2)
              exact ⟨_, _, _, rfl, rfl, g2', by rw [g3'.length]; assumption, h5 .non _ _ _ ⟨w2, w1, .non, fun _ z => nomatch z⟩⟩
            · cases hz
          · exact False.elim h5⟩
def mExt (mo ma : Ev) : Ev := fun ρ st => (mV mo ρ st).bind fun x s1 => match lstAt s1 x with
  | none => .no
  | some _ => (mV ma ρ s1).bind fun y s2 => match x, lstAt s2 x, view s2 y with
    | .c k, some xs, some d => match fExt xs d with
      | some zs => .ok (.d .none) (s2.set k (.l zs))
      | none => .no
    | _, _, _ => .no
theorem s_ext (h : PE X e (tBM X.K "list" rExtend (tV C (mV mo)) (tCons (tV C (mV ma)) tNil))) : PE X e (tM C (mExt mo ma)) :=
  h.imp fun σ H Q ⟨ρ, st, μ, F, h1, h2, h3⟩ => ⟨ρ, st, μ, F, h1, h2, Post.bindV gE_lat h3 fun x s v μ1 F1 H1 x1 r1 k1 h4 => by
    cases q : lstAt s x with
    | none => simp only [q] at h4; exact False.elim h4
    | some zs =>
      simp only [q] at h4
      obtain ⟨i, pp, ys, rfl, rfl, g1, g2, g3⟩ := lstAt_ok r1 k1 q
      refine ⟨.inl ⟨rfl, _, SqL.of g2⟩, ρ, s, μ1, F1, h1.ext x1, r1, Post.bindV gE_lat h4 fun y s2 u μ2 F2 H2 x2 r2 k2 h5 => ?_⟩
      have k1' := k1.ext x2
      cases q2 : lstAt s2 (.c i) with
      | none => simp only [q2] at h5; exact False.elim h5
      | some ws =>
        cases q3 : view s2 y with
        | none => simp only [q2, q3] at h5; exact False.elim h5
        | some d =>
          obtain ⟨i', pp', ys', e1, e2, g1', g2', g3'⟩ := lstAt_ok r2 k1' q2
          cases e1
          cases e2
          have vw := view_ok r2 k2 q3
          cases d with
          | list ds =>
            obtain ⟨pb, zs', rfl, b1, b2⟩ := vw
            simp only [q2, q3, fExt] at h5
            split at h5
            · rename_i zz hz
              split at hz
              · cases hz
                obtain ⟨w1, w2⟩ := r2.write (c := .l (ws ++ ds)) (o := .lst (ys' ++ zs')) g1' ⟨_, rfl, g3'.app b2⟩ (lstAt_get q2)
                exact ⟨_, _, _, _, rfl, rfl, g2', b1, by rw [g3'.length, b2.length]; assumption, h5 .non _ _ _ ⟨w2, w1, .non, fun _ z => nomatch z⟩⟩
              · cases hz
            · exact False.elim h5
          | _ => simp only [q2, q3, fExt] at h5; exact False.elim h5⟩
/-! ### what is walked -/
def Grd (g : Option (Nat × List PyData)) (ds : List PyData) (st : Sto) : Prop := match g with
  | none => True
  | some k => st[k.1]? = some (.l k.2)
/-- what data and cells lean on stands -/
structure Sx (μ : Mu) (F : Hp) (μ' : Mu) (F' : Hp) : Prop where
  same : Same F F'
  pre : ∃ r, μ'.l = μ.l ++ r
  preη : ∃ r, μ'.η = μ.η ++ r
theorem Ext.sx (x : Ext μ F H μ1 F1 H1) : Sx μ F μ1 F1 := ⟨x.same, x.pre, x.preη⟩
theorem Sx.refl : Sx μ F μ F := ⟨Same.refl F, ⟨[], by simp⟩, ⟨[], by simp⟩⟩
theorem Sx.trans {μ2 : Mu} {F2 : Hp} (x : Sx μ F μ1 F1) (y : Sx μ1 F1 μ2 F2) : Sx μ F μ2 F2 := by
  obtain ⟨r, e⟩ := x.pre
  obtain ⟨r', e'⟩ := y.pre
  obtain ⟨q, k⟩ := x.preη
  obtain ⟨q', k'⟩ := y.preη
  exact ⟨x.same.trans y.same, ⟨r ++ r', by rw [e', e, List.append_assoc]⟩, ⟨q ++ q', by rw [k', k, List.append_assoc]⟩⟩
theorem Sx.get (a : Sx μ F μ1 F1) {i : Nat} {x : Addr} (h : μ.l[i]? = some x) : μ1.l[i]? = some x := by
  obtain ⟨r, e⟩ := a.pre
  rw [e, List.getElem?_append_left (List.getElem?_eq_some_iff.mp h).1]
  exact h
/-- the thing J walks the data ds, while what stood stands (and the cell g holds them still) -/
structure Wk (KK : Kw) (J : It) (ds : List PyData) (g : Option (Nat × List PyData)) (μ : Mu) (F : Hp) : Prop where
  go : ∀ (i : Nat) (μ1 : Mu) (F1 H1 : Hp) (st1 : Sto) (d : PyData), Sx μ F μ1 F1 → SR KK μ1 F1 H1 st1 → Grd g ds st1 → ds[i]? = some d →
    J.go i H1 ∧ ∀ x H2, J.yld i H1 x H2 → ∃ F2, Ext μ1 F1 H1 μ1 F2 H2 ∧ SR KK μ1 F2 H2 st1 ∧ Dq KK F2 x d
  stop : ∀ (μ1 : Mu) (F1 H1 : Hp) (st1 : Sto), Sx μ F μ1 F1 → SR KK μ1 F1 H1 st1 → Grd g ds st1 → J.stop ds.length H1
abbrev Src := List PyData × Option (Nat × List PyData)
abbrev gW (C : Cn) (R : It → Hp → Prop) : Src → Sto → Mu → Hp → Hp → Prop := fun dg st μ F H => ∀ J μ' F' H', Ext μ F H μ' F' H' → SR C.K μ' F' H' st → Wk C.K J dg.1 dg.2 μ' F' → R J H'
theorem gW_lat {R : It → Hp → Prop} : Lat (gW C R) := ⟨fun x h J μ' F' H' y s w => h J μ' F' H' (x.trans y) s w⟩
def tI (C : Cn) (mi : En → Sto → Res Src) : TI := fun σ H R => At C σ H fun ρ st μ F => Post (C.at σ) (gW C R) μ F H (mi ρ st)
theorem _root_.L2.PI.imp {t u : TI} (h : PI X tg iter t) (w : ∀ σ H R, u σ H R → t σ H R) : PI X tg iter u := ⟨fun pins s σ H R I h' => h.run pins s σ H R I (w σ H R h')⟩
/-- a list, a tuple, a text -/
def iSeq (K : PySem.W.Frag) (te : TE) : TI := fun σ H R => te σ H fun v H1 => (∃ q xs, v = .ref q ∧ SqL K H1 q xs ∧ R (Itl K q) H1) ∨ (∃ q xs, v = .ref q ∧ SqT K H1 q xs ∧ R (Itt K q) H1) ∨ ∃ z, v = .str z ∧ R (Its z) H1
theorem pi_seq {te : TE} (h : PE X e te) : PI X tg e (iSeq X.K te) := by
  refine ⟨fun pins s σ H R I hw => thn (h.run pins s σ H _ I hw) fun u s1 ⟨v, H1, I1, rv, q⟩ => ?_⟩
  rcases q with ⟨q, xs, rfl, hq, hr⟩ | ⟨q, xs, rfl, hq, hr⟩ | ⟨z, rfl, hr⟩
  · obtain ⟨its, r2, pl, _⟩ := I1.list hq
    cases rv
    exact PySem.wpAny_pyIter_list pl.isList (pi_one (tk := s1.toks) I1 _ (turn_list q _) ⟨_, Heap.get?_push_size _ rfl, rfl, rfl⟩ hr)
  · obtain ⟨its, r2, pl, _⟩ := I1.tuple hq
    cases rv
    exact PySem.wpAny_pyIter_tuple (show s1.heap.IsTuple q its.toArray from pl) (pi_one (tk := s1.toks) I1 _ (turn_tuple q _) ⟨_, Heap.get?_push_size _ rfl, rfl, rfl⟩ hr)
  · obtain ⟨t, rfl⟩ := rv
    cases hw : z.cps.all (· < 128)
    · exact wpAny_pyIter_wide hw (pi_one (tk := s1.toks) I1 _ (turn_str _ z t "str_iterator" (.inr rfl)) ⟨_, Heap.get?_push_size _ rfl, rfl, rfl⟩ hr)
    · exact wpAny_pyIter_ascii hw (pi_one (tk := s1.toks) I1 _ (turn_str _ z t "str_ascii_iterator" (.inl rfl)) ⟨_, Heap.get?_push_size _ rfl, rfl, rfl⟩ hr)
def signs (z : Str) : List PyData := z.cps.toList.map fun c => .str ⟨#[c]⟩
def srcOf (s : Sto) (x : Vl) : Option Src := match x with
  | .c k => match s[k]? with
    | some (.l xs) => some (xs, some (k, xs))
    | _ => none
  | .d (.list xs) => some (xs, none)
  | .d (.tuple xs) => some (xs, none)
  | .d (.str z) => some (signs z, none)
  | .o (.tp xs) => some (xs, none)
  | _ => none
def okO {α : Type} (o : Option α) (s : Sto) : Res α := match o with
  | some k => .ok k s
  | none => .no
def iOf (m : Ev) : En → Sto → Res Src := fun ρ st => (mV m ρ st).bind fun x s => okO (srcOf s x) s
theorem wk_list {K : PySem.W.Frag} {q : Addr} {ds : List PyData} {g : Option (Nat × List PyData)} (hx : ∀ μ1 F1 H1 st1, Sx μ F μ1 F1 → SR C.K μ1 F1 H1 st1 → Grd g ds st1 → ∃ ys, H1 q = some (.lst ys) ∧ DqAll C.K F1 ys ds) : Wk C.K (Itl K q) ds g μ F := by
  refine ⟨fun i μ1 F1 H1 st1 d x1 r1 k1 e => ?_, fun μ1 F1 H1 st1 x1 r1 k1 => ?_⟩
  · obtain ⟨ys, g1, g2⟩ := hx μ1 F1 H1 st1 x1 r1 k1
    obtain ⟨v, g3, g4⟩ := g2.get e
    refine ⟨⟨ys, v, SqL.of g1, g3⟩, fun x H2 ⟨e1, e2⟩ => ?_⟩
    subst e1
    have := e2 ys (SqL.of g1)
    rw [g3] at this
    cases this
    exact ⟨F1, Ext.refl, r1, g4⟩
  · obtain ⟨ys, g1, g2⟩ := hx μ1 F1 H1 st1 x1 r1 k1
    exact ⟨ys, SqL.of g1, Nat.le_of_eq g2.length⟩
theorem wk_tup {K : PySem.W.Frag} {xs : List V} {q : Addr} {ds : List PyData} {g : Option (Nat × List PyData)} (h1 : Rd F q (.tup xs)) (h2 : DqAll C.K F xs ds) : Wk C.K (Itt K q) ds g μ F := by
  refine ⟨fun i μ1 F1 H1 st1 d x1 r1 k1 e => ?_, fun μ1 F1 H1 st1 x1 r1 k1 => ?_⟩
  · have g1 : SqT K H1 q xs := SqT.rd r1.sub (same_rd x1.same h1)
    obtain ⟨v, g3, g4⟩ := (h2.same x1.same).get e
    refine ⟨⟨xs, v, g1, g3⟩, fun x H2 ⟨e1, e2⟩ => ?_⟩
    subst e1
    have := e2 xs (g1)
    rw [g3] at this
    cases this
    exact ⟨F1, Ext.refl, r1, g4⟩
  · exact ⟨xs, SqT.rd r1.sub (same_rd x1.same h1), Nat.le_of_eq h2.length⟩
theorem wk_str {z : Str} {g : Option (Nat × List PyData)} : Wk C.K (Its z) (signs z) g μ F := by
  refine ⟨fun i μ1 F1 H1 st1 d x1 r1 k1 e => ?_, fun μ1 F1 H1 st1 x1 r1 k1 => ?_⟩
  · unfold signs at e
    rw [List.getElem?_map] at e
    obtain ⟨cc, h1, rfl⟩ := Option.map_eq_some_iff.mp e
    rw [Array.getElem?_toList] at h1
    refine ⟨(Array.getElem?_eq_some_iff.mp h1).1, fun x H2 ⟨e1, c', e2, e3⟩ => ?_⟩
    subst e1 e3
    rw [h1] at e2; cases e2
    exact ⟨F1, Ext.refl, r1, .str _⟩
  · show z.cps.size ≤ (signs z).length
    unfold signs
    rw [List.length_map, Array.length_toList]
    exact Nat.le_refl _
theorem i_seq (h : PE X e (tM C m)) : PI X tg e (tI C (iOf m)) := (pi_seq (pv_frz h)).imp fun σ H R ⟨ρ, st, μ, F, h1, h2, h3⟩ => ⟨ρ, st, μ, F, h1, h2, Post.bindV gW_lat h3 fun x s v μ1 F1 H1 x1 r1 k1 h4 => by
  cases x with
  | s _ => exact False.elim h4
  | o y =>
    cases y with
    | tp xs =>
      obtain ⟨a, ys, o, rfl, q1, _, q2⟩ := k1
      exact .inr (.inl ⟨_, _, rfl, SqT.rd r1.sub (.inr ⟨o, q1⟩), h4 _ μ1 F1 H1 Ext.refl r1 (wk_tup (.inr ⟨o, q1⟩) q2)⟩)
    | _ => exact False.elim h4
  | c k =>
    cases q : s[k]? with
    | none => simp only [srcOf, q, okO] at h4; exact False.elim h4
    | some cl =>
      cases cl with
      | m _ => simp only [srcOf, q, okO] at h4; exact False.elim h4
      | l xs =>
        simp only [srcOf, q, okO] at h4
        obtain ⟨pp, hp, rfl⟩ := k1
        obtain ⟨p', o', g1, g2, ys, rfl, g3⟩ := r1.cell k _ q
        rw [hp] at g1; cases g1
        refine .inl ⟨pp, ys, rfl, SqL.of g2, h4 _ μ1 F1 H1 Ext.refl r1 (wk_list fun μ2 F2 H2 st2 x2 r2 k2 => ?_)⟩
        obtain ⟨p2, o2, e1, e2, zs, rfl, e3⟩ := r2.cell k _ k2
        rw [x2.get hp] at e1; cases e1
        exact ⟨zs, e2, e3⟩
  | d x =>
    cases x with
    | list xs =>
      cases (show Dq C.K F1 v (.list xs) from k1) with
      | lst q1 q2 => exact .inl ⟨_, _, rfl, SqL.of (r1.sub _ _ q1), h4 _ μ1 F1 H1 Ext.refl r1 (wk_list fun μ2 F2 H2 st2 x2 r2 k2 => ⟨_, r2.sub _ _ (x2.same _ _ q1), q2.same x2.same⟩)⟩
    | tuple xs =>
      cases (show Dq C.K F1 v (.tuple xs) from k1) with
      | tup q1 q2 => exact .inr (.inl ⟨_, _, rfl, SqT.rd r1.sub q1, h4 _ μ1 F1 H1 Ext.refl r1 (wk_tup q1 q2)⟩)
    | str z =>
      cases (show Dq C.K F1 v (.str z) from k1)
      exact .inr (.inr ⟨z, rfl, h4 _ μ1 F1 H1 Ext.refl r1 wk_str⟩)
    | _ => exact False.elim h4⟩
/-- range -/
def rngD (lo hi : Int) : List PyData := (List.range (hi - lo).toNat).map fun i => .int (lo + (i : Nat))
theorem wk_rng {lo : Int} {n : Nat} {g : Option (Nat × List PyData)} : Wk C.K (Itr lo n) ((List.range n).map fun i => .int (lo + (i : Nat))) g μ F := by
  refine ⟨fun i μ1 F1 H1 st1 d x1 r1 k1 e => ?_, fun μ1 F1 H1 st1 x1 r1 k1 => ?_⟩
  · rw [List.getElem?_map] at e
    obtain ⟨cc, h1, rfl⟩ := Option.map_eq_some_iff.mp e
    obtain ⟨hl, he⟩ := List.getElem?_eq_some_iff.mp h1
    rw [List.getElem_range] at he
    subst he
    rw [List.length_range] at hl
    refine ⟨hl, fun x H2 ⟨e1, e2⟩ => ?_⟩
    subst e1 e2
    exact ⟨F1, Ext.refl, r1, .int _⟩
  · show n ≤ _
    rw [List.length_map, List.length_range]
    exact Nat.le_refl _
def rOk (i j : Int) : Bool := decide (-(2 ^ 62) ≤ i) && decide (i < 2 ^ 62) && decide (-(2 ^ 62) ≤ j) && decide (j < 2 ^ 62)
def oneI (xs : List Vl) : Option Int := match xs with
  | [.d (.int j)] => some j
  | _ => none
def twoI (xs : List Vl) : Option (Int × Int) := match xs with
  | [.d (.int i), .d (.int j)] => some (i, j)
  | _ => none
theorem oneI_ok {K : Kw} {xs : List Vl} {vs : List V} {j : Int} (k : VokAll K F μ xs vs) (e : oneI xs = some j) : vs = [.int j] := by
  unfold oneI at e
  split at e
  · cases e
    obtain ⟨v, rfl, hv⟩ := k.one
    cases (show Dq K F v (.int j) from hv)
    rfl
  · cases e
def iRg1 (mas : En → Sto → Res (List Vl)) : En → Sto → Res Src := fun ρ st => (mas ρ st).bind fun xs s => match oneI xs with
  | some j => if rOk 0 j = true then .ok (rngD 0 j, none) s else .no
  | none => .no
def iRg2 (mas : En → Sto → Res (List Vl)) : En → Sto → Res Src := fun ρ st => (mas ρ st).bind fun xs s => match twoI xs with
  | some ij => if rOk ij.1 ij.2 = true then .ok (rngD ij.1 ij.2, none) s else .no
  | none => .no
variable {mas : En → Sto → Res (List Vl)}
theorem rOk_of {i j : Int} (h : rOk i j = true) : -(2 ^ 62) ≤ i ∧ i < 2 ^ 62 ∧ -(2 ^ 62) ≤ j ∧ j < 2 ^ 62 := by
  unfold rOk at h
  simp only [Bool.and_eq_true, decide_eq_true_eq] at h
  exact ⟨h.1.1.1, h.1.1.2, h.1.2, h.2⟩
theorem i_rng1 (hg : Gl X "range") (hm : X.mg "range" = none) (ha : PA X [a] (tAs C mas)) (hs : starEach [a] X.env = [(false, eval a X.env)] := by rfl) : PI X tg (.Call (.Name "range" p) [a] [] pos) (tI C (iRg1 mas)) :=
  (pi_range1 hg hm ha hs).imp fun σ H R ⟨ρ, st, μ, F, h1, h2, h3⟩ => ⟨ρ, st, μ, F, h1, h2, Post.bindA gW_lat h3 fun xs s vs μ1 F1 H1 x1 r1 k1 h4 => by
    cases q : oneI xs with
    | none => simp only [q] at h4; exact False.elim h4
    | some j =>
      simp only [q] at h4
      by_cases hr : rOk 0 j = true
      · rw [if_pos hr] at h4
        obtain ⟨_, _, q1, q2⟩ := rOk_of hr
        refine ⟨j, oneI_ok k1 q, q1, q2, h4 _ μ1 F1 H1 Ext.refl r1 ?_⟩
        show Wk C.K (Itr 0 j.toNat) (rngD 0 j) none μ1 F1
        unfold rngD
        rw [Int.sub_zero]
        exact wk_rng
      · rw [if_neg hr] at h4
        exact False.elim h4⟩
/-- list(range(..)) -/
def mLr (mi : En → Sto → Res (Int × Int)) : Ev := fun ρ st => (mi ρ st).bind fun ij s => if rOk ij.1 ij.2 = true ∧ (ij.2 - ij.1).toNat ≤ 2 ^ 24 then .ok (.n (.l (rngD ij.1 ij.2))) s else .no
end
end Cp
/-! Cp7: for, while, comprehensions. -/
namespace Cp
open PySem L2
section
variable {X : Cx} {C : Cn} {Q : VK} {μ μ1 : Mu} {F H F1 H1 : Hp} {st : Sto} {e a b c o tg iter : Expr} {m mo ma mb mc : Ev} {pos p apos cpos : Pos} {es : List Expr} {D : Ends} {s t : Stmt} {ss body : List Stmt} {sa sb : Sv}
/-! ### for -/
open Classical in
noncomputable def forGo (g : Gm) (b : Sv) (gd : Option (Nat × List PyData)) (all : List PyData) : List PyData → En → Sto → RS
  | [], ρ, st => if Grd gd all st then .nx ρ st else .no
  | d :: r, ρ, st => if Grd gd all st then (g (.d d) ρ st).toS fun ρ1 s1 => match b ρ1 s1 with
      | .nx ρ2 s2 => forGo g b gd all r ρ2 s2
      | .ct ρ2 s2 => forGo g b gd all r ρ2 s2
      | .bk ρ2 s2 => .nx ρ2 s2
      | .rt v s2 => .rt v s2
      | .er x s2 => .er x s2
      | .no => .no
    else .no
noncomputable def sFor (mi : En → Sto → Res Src) (g : Gm) (b : Sv) : Sv := fun ρ st => (mi ρ st).toS fun dg s => forGo g b dg.2 dg.1 dg.1 ρ s
theorem PostS.bindI {m : Res Src} {k : Src → Sto → RS} {R : It → Hp → Prop} (h : PostS C D μ F H (m.toS k))
    (hk : ∀ x s J μ1 F1 H1, Ext μ F H μ1 F1 H1 → SR C.K μ1 F1 H1 s → Wk C.K J x.1 x.2 μ1 F1 → PostS C D μ1 F1 H1 (k x s) → R J H1) : Post C (gW C R) μ F H m := by
  cases m with
  | ok x s => exact fun J μ1 F1 H1 e s1 w => hk x s J μ1 F1 H1 e s1 w (PostS.later e h)
  | er e s => exact h
  | no => exact h
theorem PostS.bindG {m : Res En} {k : En → Sto → RS} {ws : List Nat} {σ : St} {P : St → Hp → Prop} (h : PostS C D μ F H (m.toS k))
    (hk : ∀ ρ s σ' μ1 F1 H1, Ext μ F H μ1 F1 H1 → SR C.K μ1 F1 H1 s → Eok C.K F1 μ1 ρ σ' → Agr ws σ σ' → PostS C D μ1 F1 H1 (k ρ s) → P σ' H1) : Post C (gG C ws σ P) μ F H m := by
  cases m with
  | ok x s => exact fun σ' μ1 F1 H1 e s1 k1 a => hk x s σ' μ1 F1 H1 e s1 k1 a (PostS.later e h)
  | er e s => exact h
  | no => exact h
theorem drop_cons {α : Type} : ∀ {l : List α} {i : Nat} (h : i < l.length), ∃ d, l[i]? = some d ∧ l.drop i = d :: l.drop (i + 1)
  | x :: l, 0, _ => ⟨x, rfl, rfl⟩
  | x :: l, i + 1, h => by
    obtain ⟨d, h1, h2⟩ := drop_cons (l := l) (i := i) (by simpa using h)
    exact ⟨d, by simpa using h1, by simpa using h2⟩
theorem x_for {mi : En → Sto → Res Src} {ws : List Nat} {g : Gm} (hp : PassesOwn (model X.prog X.w) X.A X.env X.xe) (hc : X.calm = true) (hi : PI X tg iter (tI C mi)) (hg : PG X tg (tG C ws g)) (hb : PSs X body (tS C sb))
    (hs : ∀ x, foldedSetIterable iter X.env x = pure x := by intro _; rfl) (fl : C.Flat := by exact fun _ _ _ _ _ h => h) : PS X (.For tg iter body [] pos) (tS C (sFor mi g sb)) := (ps_for hp hc hi hg hb hs).imp fun D σ0 H ⟨ρ, st, μ, F, h1, h2, h3⟩ => by
  refine ⟨ρ, st, μ, F, h1, h2, PostS.bindI h3 fun dg s J μ' F' Hs x0 r0 wk h4 => ?_⟩
  obtain ⟨ds, gd⟩ := dg
  refine ⟨fun i m σ H => m = ds.length - i ∧ i ≤ ds.length ∧ ∃ ρ1 st1 μ1 F1, Ext μ' F' Hs μ1 F1 H ∧ SR C.K μ1 F1 H st1 ∧ Eok C.K F1 μ1 ρ1 σ ∧ PostS (C.at σ0) D μ1 F1 H (forGo g sb gd ds (ds.drop i) ρ1 st1),
    ⟨ds.length, rfl, Nat.zero_le _, ρ, s, μ', F', Ext.refl, r0, h1.ext x0, h4⟩, ?_⟩
  rintro i m σ H ⟨rfl, hi, ρ1, st1, μ1, F1, x1, r1, k1, h5⟩
  by_cases hl : i < ds.length
  · obtain ⟨d, e1, e2⟩ := drop_cons hl
    rw [e2] at h5
    unfold forGo at h5
    by_cases hgd : Grd gd ds st1
    · rw [if_pos hgd] at h5
      obtain ⟨go, step⟩ := wk.go i μ1 F1 H st1 d x1.sx r1 hgd e1
      refine .inr ⟨go, fun σ' H' => ∃ ρ2 st2 μ2 F2, Ext μ' F' Hs μ2 F2 H' ∧ SR C.K μ2 F2 H' st2 ∧ Eok C.K F2 μ2 ρ2 σ' ∧ PostS (C.at σ0) D μ2 F2 H' (forGo g sb gd ds (ds.drop (i + 1)) ρ2 st2),
        fun σ' H' hn => ⟨ds.length - (i + 1), by omega, rfl, hl, hn⟩, fun x H2 y => ?_⟩
      obtain ⟨F2, x2, r2, kd⟩ := step x H2 y
      refine ⟨ρ1, st1, μ1, F2, .d d, k1.ext x2, r2, kd, PostS.bindG (C := C.at σ) (PostS.flat fl (PostS.later x2 h5)) fun ρ2 s2 σ2 μ3 F3 H3 x3 r3 k3 ag h6 => ⟨ρ2, s2, μ3, F3, k3, r3, ?_⟩⟩
      have h6 := PostS.flat (σ' := σ2) fl h6
      show PostS (C.at σ2) _ μ3 F3 H3 (sb ρ2 s2)
      cases q : sb ρ2 s2 with
      | nx ρ4 s4 => simp only [q] at h6; exact fun σ4 μ4 F4 H4 x4 r4 k4 => ⟨ρ4, s4, μ4, F4, ((x1.trans x2).trans x3).trans x4, r4, k4, PostS.flat fl (PostS.later x4 h6)⟩
      | ct ρ4 s4 => simp only [q] at h6; exact fun σ4 μ4 F4 H4 x4 r4 k4 => ⟨ρ4, s4, μ4, F4, ((x1.trans x2).trans x3).trans x4, r4, k4, PostS.flat fl (PostS.later x4 h6)⟩
      | bk ρ4 s4 => simp only [q] at h6; exact h6
      | rt v s4 => simp only [q] at h6; exact h6
      | er v s4 => simp only [q] at h6; exact h6
      | no => simp only [q] at h6; exact h6
    · rw [if_neg hgd] at h5; exact False.elim h5
  · have e : i = ds.length := by omega
    subst e
    rw [List.drop_length] at h5
    unfold forGo at h5
    by_cases hgd : Grd gd ds st1
    · rw [if_pos hgd] at h5
      exact .inl ⟨wk.stop μ1 F1 H st1 x1.sx r1 hgd, h5 σ μ1 F1 H Ext.refl r1 k1⟩
    · rw [if_neg hgd] at h5; exact False.elim h5
/-! ### while: at most n turns -/
/-! ### comprehensions -/
def wipeE (ρ : En) : List Nat → En
  | [] => ρ
  | v :: vs => (wipeE ρ vs).set v none
theorem wipeE_len (ρ : En) : ∀ vs : List Nat, (wipeE ρ vs).length = ρ.length
  | [] => rfl
  | v :: vs => by unfold wipeE; rw [List.length_set, wipeE_len ρ vs]
theorem eok_wipe {K : Kw} {ρ : En} {σ : St} (h : Eok K F μ ρ σ) : ∀ vs : List Nat, Eok K F μ (wipeE ρ vs) (wipe σ vs)
  | [] => h
  | v :: vs => by
    have ih := eok_wipe h vs
    refine ⟨by rw [wipeE_len, wipe_length]; exact h.1, fun j y e => ?_⟩
    unfold wipeE at e
    unfold wipe
    by_cases hj : v = j
    · subst hj
      by_cases hv : v < (wipeE ρ vs).length
      · rw [List.getElem?_set_self hv] at e; cases e
      · rw [List.getElem?_eq_none (by simpa using hv)] at e; cases e
    · rw [List.getElem?_set_ne hj] at e
      obtain ⟨w, h1, h2⟩ := ih.2 j y e
      exact ⟨w, by rw [List.getElem?_set_ne hj]; exact h1, h2⟩
theorem wipe_agr {σ σ' : St} {ws vs : List Nat} (a : Agr ws (wipe σ vs) σ') (hv : ∀ i, i ∈ ws → i ∈ vs) : wipe σ' vs = wipe σ vs := by
  have key : ∀ {τ : St} {us : List Nat} {j : Nat}, (wipe τ us)[j]? = if j ∈ us then (if j < τ.length then some none else none) else τ[j]? := by
    intro τ us
    induction us with
    | nil => intro j; simp [wipe]
    | cons u us ih =>
      intro j
      unfold wipe
      by_cases hj : u = j
      · subst hj
        rw [if_pos (by simp)]
        by_cases hl : u < τ.length
        · rw [List.getElem?_set_self (by rw [wipe_length]; exact hl), if_pos hl]
        · rw [List.getElem?_eq_none (by rw [List.length_set, wipe_length]; omega), if_neg hl]
      · rw [List.getElem?_set_ne hj, ih]
        by_cases hm : j ∈ us
        · rw [if_pos hm, if_pos (List.mem_cons_of_mem u hm)]
        · rw [if_neg hm, if_neg (fun z => (List.mem_cons.mp z).elim (fun e => hj e.symm) hm)]
  have hl : σ'.length = σ.length := by rw [a.1, wipe_length]
  apply List.ext_getElem?
  intro j
  rw [key, key, hl]
  by_cases hm : j ∈ vs
  · rw [if_pos hm, if_pos hm]
  · rw [if_neg hm, if_neg hm, a.2 j (fun z => hm (hv j z)), key, if_neg hm]
/-- within a comprehension no error leaves -/
def Cn.quiet (C : Cn) : Cn := { C with W := fun _ _ _ _ => False }
open Classical in
noncomputable def lcGo (g : Gm) (tt : En → Sto → Res Bool) (te : Ev) (gd : Option (Nat × List PyData)) (all : List PyData) (ρ : En) : List PyData → Sto → List PyData → Res (List PyData)
  | [], st, acc => if Grd gd all st then .ok acc st else .no
  | d :: r, st, acc => if Grd gd all st then (match g (.d d) ρ st with
      | .ok ρ1 s1 => match tt ρ1 s1 with
        | .ok true s2 => match mV te ρ1 s2 with
          | .ok (.d y) s3 => if acc.length < sizeLine then lcGo g tt te gd all ρ r s3 (acc ++ [y]) else .no
          | _ => .no
        | .ok false s2 => lcGo g tt te gd all ρ r s2 acc
        | _ => .no
      | _ => .no) else .no
noncomputable def mLc (mi : En → Sto → Res Src) (g : Gm) (tt : En → Sto → Res Bool) (te : Ev) (vs : List Nat) : Ev := fun ρ st => (mi ρ st).bind fun dg s => (lcGo g tt te dg.2 dg.1 (wipeE ρ vs) dg.1 s []).bind fun ys s' => .ok (.n (.l ys)) s'
theorem Post.bindI {β : Type} {G : β → Sto → Mu → Hp → Hp → Prop} (gl : Lat G) {m : Res Src} {k : Src → Sto → Res β} {R : It → Hp → Prop} (h : Post C G μ F H (m.bind k))
    (hk : ∀ x s J μ1 F1 H1, Ext μ F H μ1 F1 H1 → SR C.K μ1 F1 H1 s → Wk C.K J x.1 x.2 μ1 F1 → Post C G μ1 F1 H1 (k x s) → R J H1) : Post C (gW C R) μ F H m := by
  cases m with
  | ok x s => exact fun J μ1 F1 H1 e s1 w => hk x s J μ1 F1 H1 e s1 w (Post.later gl e h)
  | er e s => exact h
  | no => exact h
/-- the new list at L within: an object of nobody's is written -/
theorem SR.out {K : Kw} (s : SR K μ F H st) {L : Addr} {u : HO} (hF : F L = none) (hm : L ∉ μ) : SR K μ F (upd H L u) st := by
  refine ⟨s.nd, s.len, s.sep, fun b o h => ?_, fun i c i0 h => ?_, s.obs_kept fun j a hj o ho => ?_⟩
  · rw [upd_ne (fun z => by subst z; rw [hF] at h; cases h)]; exact s.sub b o h
  · obtain ⟨p, o, h1, h2, h3⟩ := s.cell0 i c i0 h
    refine ⟨p, o, h1, ?_, h3⟩
    rw [upd_ne (fun z => ?_)]; exact h2
    subst z
    exact hm (Mu.mem_l h1 i0)
  · rw [upd_ne (fun z => by subst z; exact hm (Mu.mem_η hj))]; exact ho
theorem Ext.out (x : Ext μ F H μ1 F1 H1) {L : Addr} {u : HO} (h0 : H L = none) (h1 : H1 L ≠ none ∨ True) : Ext μ F H μ1 F1 (upd H1 L u) := by
  refine ⟨x.same, x.pre, x.preη, fun b o h n => ?_, fun b h => ?_, x.nF, x.nC⟩
  · rw [upd_ne (fun z => by subst z; rw [h0] at h; cases h)]; exact x.fr b o h n
  · by_cases e : b = L
    · subst e; exact h0
    · rw [upd_ne e] at h; exact x.dom b h
/-- what is in nobody's hands stays so -/
theorem Ext.keepOut {L : Addr} {u : HO} (x : Ext μ F H μ1 F1 H1) (h : H L = some u) (hF : F L = none) (hm : L ∉ μ) : H1 L = some u ∧ F1 L = none ∧ L ∉ μ1 := by
  refine ⟨x.fr L u h hm, ?_, fun z => ?_⟩
  · cases q : F1 L with
    | none => rfl
    | some o =>
      rcases x.nF L o q with z | z | z
      · rw [hF] at z; cases z
      · rw [h] at z; cases z
      · exact absurd z hm
  · rcases x.nC L z with z | z
    · exact hm z
    · rw [h] at z; cases z
abbrev Blk (X : Cx) (scope : Scope) (J : Cx → Prop) : Prop := ∀ (s : Shared) (H : Hp) (A : Addr) (cl : List (Str × Addr)) (fp : List Addr), J (X.blk s H scope (compEnvC scope cl A X.env) fp)
/-- the state within a comprehension's loop: the list L so far -/
structure LcI (C : Cn) (μ' : Mu) (F' H' : Hp) (L : Addr) (ρ : En) (σ : St) (acc : List PyData) (H : Hp) (st : Sto) (μ1 : Mu) (F1 : Hp) : Prop where
  x : Ext μ' F' H' μ1 F1 H
  r : SR C.K μ1 F1 H st
  k : Eok C.K F1 μ1 ρ σ
  l : ∃ xs, H L = some (.lst xs) ∧ DqAll C.K F1 xs acc
  f : F1 L = none
  m : L ∉ μ1
theorem LcI.later {C : Cn} {μ' : Mu} {F' H' : Hp} {L : Addr} {ρ : En} {σ : St} {acc : List PyData} {μ2 : Mu} {F2 H2 : Hp} {st2 : Sto} (i : LcI C μ' F' H' L ρ σ acc H st μ1 F1) (x : Ext μ1 F1 H μ2 F2 H2) (r : SR C.K μ2 F2 H2 st2) : LcI C μ' F' H' L ρ σ acc H2 st2 μ2 F2 := by
  obtain ⟨xs, h1, h2⟩ := i.l
  obtain ⟨k1, k2, k3⟩ := x.keepOut h1 i.f i.m
  exact ⟨i.x.trans x, r, i.k.ext x, ⟨xs, k1, h2.same x.same⟩, k2, k3⟩
theorem LcI.put {C : Cn} {μ' : Mu} {F' H' : Hp} {L : Addr} {ρ : En} {σ : St} {acc : List PyData} {y : PyData} {v : V} (h0 : H' L = none) (i : LcI C μ' F' H' L ρ σ acc H st μ1 F1) (hv : Dq C.K F1 v y) :
    ∃ xs, H L = some (.lst xs) ∧ xs.length = acc.length ∧ LcI C μ' F' H' L ρ σ (acc ++ [y]) (upd H L (.lst (xs ++ [v]))) st μ1 F1 := by
  obtain ⟨xs, h1, h2⟩ := i.l
  exact ⟨xs, h1, h2.length, i.x.out h0 (.inr trivial), i.r.out i.f i.m, i.k, ⟨_, upd_same, h2.app (.cons hv .nil)⟩, i.f, i.m⟩
theorem s_lcT {scope : Scope} {own : List (Str × Nat)} {mi : En → Sto → Res Src} {ws : List Nat} {g : Gm} {tt : En → Sto → Res Bool} {te : Ev} (hws : ∀ i, i ∈ ws → i ∈ own.map (·.2)) (σ : St) (H : Hp) (Q : VK) (h : tM C (mLc mi g tt te (own.map (·.2))) σ H Q) :
    tLc (tI C mi) (tG C.quiet ws g) (tT C.quiet tt) (tV C.quiet (mV te)) (own.map (·.2)) σ H Q := by
  obtain ⟨ρ, st, μ, F, h1, h2, h3⟩ := h
  refine ⟨ρ, st, μ, F, h1, h2, Post.bindI gE_lat h3 fun dg s J μ' F' H' x0 r0 wk h4 L hL => ?_⟩
  obtain ⟨ds, gd⟩ := dg
  obtain ⟨rn, xn⟩ := r0.newly (o := .lst []) hL
  have dd := r0.dead hL
  refine ⟨fun i m H => m = ds.length - i ∧ i ≤ ds.length ∧ ∃ acc st1 μ1 F1, LcI C μ' F' H' L (wipeE ρ (own.map (·.2))) (wipe σ (own.map (·.2))) acc H st1 μ1 F1 ∧
      PostE (C.at σ) Q μ' F' H' ((lcGo g tt te gd ds (wipeE ρ (own.map (·.2))) (ds.drop i) st1 acc).bind fun ys s' => .ok (.n (.l ys)) s'),
    ⟨ds.length, rfl, Nat.zero_le _, [], s, μ', F', ⟨xn, rn, (eok_wipe (h1.ext x0) _), ⟨[], upd_same, .nil⟩, dd.1, dd.2⟩, h4⟩, ?_⟩
  rintro i m H ⟨rfl, hi, acc, st1, μ1, F1, I, h5⟩
  by_cases hl : i < ds.length
  · obtain ⟨d, e1, e2⟩ := drop_cons hl
    rw [e2] at h5
    unfold lcGo at h5
    by_cases hgd : Grd gd ds st1
    · rw [if_pos hgd] at h5
      obtain ⟨go, step⟩ := wk.go i μ1 F1 H st1 d I.x.sx I.r hgd e1
      refine .inr ⟨go, fun H2 => ∃ acc st1 μ1 F1, LcI C μ' F' H' L (wipeE ρ (own.map (·.2))) (wipe σ (own.map (·.2))) acc H2 st1 μ1 F1 ∧
        PostE (C.at σ) Q μ' F' H' ((lcGo g tt te gd ds (wipeE ρ (own.map (·.2))) (ds.drop (i + 1)) st1 acc).bind fun ys s' => .ok (.n (.l ys)) s'), fun H2 hn => ⟨ds.length - (i + 1), by omega, rfl, hl, hn⟩, fun x H2 y => ?_⟩
      obtain ⟨F2, x2, r2, kd⟩ := step x H2 y
      have I2 := I.later x2 r2
      refine ⟨_, st1, μ1, F2, .d d, I2.k, r2, kd, ?_⟩
      show Post (C.quiet.at _) _ μ1 F2 H2 (g (.d d) (wipeE ρ (own.map (·.2))) st1)
      cases q : g (.d d) (wipeE ρ (own.map (·.2))) st1 with
      | no => simp only [q] at h5; exact False.elim h5
      | er _ _ => simp only [q] at h5; exact False.elim h5
      | ok ρ2 s2 =>
        simp only [q] at h5
        intro σ3 μ3 F3 H3 x3 r3 k3 ag
        have I3 := I2.later x3 r3
        refine ⟨wipe_agr ag hws, ρ2, s2, μ3, F3, k3, r3, ?_⟩
        show Post (C.quiet.at _) _ μ3 F3 H3 (tt ρ2 s2)
        cases q2 : tt ρ2 s2 with
        | no => simp only [q2] at h5; exact False.elim h5
        | er _ _ => simp only [q2] at h5; exact False.elim h5
        | ok k s3 =>
          intro μ4 F4 H4 x4 r4
          have I4 := I3.later x4 r4
          cases k with
          | false =>
            simp only [q2] at h5
            simp only [Bool.false_eq_true, if_false]
            exact ⟨acc, s3, μ4, F4, I4, h5⟩
          | true =>
            simp only [q2] at h5
            simp only [if_true]
            refine ⟨ρ2, s3, μ4, F4, k3.ext x4, r4, ?_⟩
            show Post (C.quiet.at _) _ μ4 F4 H4 (mV te ρ2 s3)
            cases q3 : mV te ρ2 s3 with
            | no => simp only [q3] at h5; exact False.elim h5
            | er _ _ => simp only [q3] at h5; exact False.elim h5
            | ok z s4 =>
              intro v μ5 F5 H5 x5 r5 k5
              have I5 := I4.later x5 r5
              cases z with
              | c _ => simp only [q3] at h5; exact False.elim h5
              | s _ => simp only [q3] at h5; exact False.elim h5
              | o _ => simp only [q3] at h5; exact False.elim h5
              | d y =>
                simp only [q3] at h5
                by_cases hz : acc.length < sizeLine
                · rw [if_pos hz] at h5
                  obtain ⟨xs, g1, g2, g3⟩ := I5.put hL k5
                  exact ⟨xs, g1, by rw [g2]; exact hz, acc ++ [y], s4, μ5, F5, g3, h5⟩
                · rw [if_neg hz] at h5; exact False.elim h5
    · rw [if_neg hgd] at h5; exact False.elim h5
  · have e : i = ds.length := by omega
    subst e
    rw [List.drop_length] at h5
    unfold lcGo at h5
    by_cases hgd : Grd gd ds st1
    · rw [if_pos hgd] at h5
      obtain ⟨xs, g1, g2⟩ := I.l
      exact .inl ⟨wk.stop μ1 F1 H st1 I.x.sx I.r hgd, h5 _ μ1 F1 H ⟨I.x, I.r, ⟨L, _, rfl, g1, ⟨xs, rfl, g2⟩, I.f, I.m⟩, fun c _ => ⟨L, rfl, hL⟩⟩⟩
    · rw [if_neg hgd] at h5; exact False.elim h5
theorem s_lc {scope : Scope} {own : List (Str × Nat)} {ifs : List Expr} {mi : En → Sto → Res Src} {ws : List Nat} {g : Gm} {tt : En → Sto → Res Bool} {te : Ev} (hc : X.calm = true) (hN : X.N.Nodup) (hi : PI X tg iter (tI C mi)) (ok : BlkOk X.N X.env.scope scope own)
    (hg : Blk X scope fun Y => PG Y tg (tG C.quiet ws g)) (ht : Blk X scope fun Y => PTs Y ifs (tT C.quiet tt)) (he : Blk X scope fun Y => PE Y e (tM C.quiet te)) (hws : ∀ i, i ∈ ws → i ∈ own.map (·.2)) (hs : ∀ x, foldedSetIterable iter X.env x = pure x := by intro _; rfl) :
    PE X (.ListComp e [⟨tg, iter, ifs, 0⟩] scope pos) (tM C (mLc mi g tt te (own.map (·.2)))) :=
  (pe_lc hc hN hi ok (fun s H A cl fp => hg s H A cl fp) (fun s H A cl fp => ht s H A cl fp) (fun s H A cl fp => pv_frz (he s H A cl fp)) hs).imp fun σ H Q h => s_lcT (scope := scope) hws σ H Q h
def ttY : En → Sto → Res Bool := fun _ st => .ok true st
theorem pts_yes : PTs X [] (tT C ttY) := ⟨fun pins s σ H Q I ⟨ρ, st, μ, F, h1, h2, h3⟩ => pts_nil.run pins s σ H Q I (h3 μ F H Ext.refl h2)⟩
end
end Cp
/-! Cp8: comprehensions of two clauses. -/
namespace Cp
open PySem L2
section
variable {X : Cx} {C : Cn} {Q : VK} {μ μ1 : Mu} {F H F1 H1 : Hp} {st : Sto} {e tg iter tg1 iter1 : Expr} {pos : Pos} {D : Ends}
open Classical in
noncomputable def lc2Go (g : Gm) (tt : En → Sto → Res Bool) (mi1 : En → Sto → Res Src) (g1 : Gm) (tt1 : En → Sto → Res Bool) (te : Ev) (gd : Option (Nat × List PyData)) (all : List PyData) (vs1 : List Nat) (ρ : En) : List PyData → Sto → List PyData → Res (List PyData)
  | [], st, acc => if Grd gd all st then .ok acc st else .no
  | d :: r, st, acc => if Grd gd all st then (match g (.d d) ρ st with
      | .ok ρ1 s1 => match tt ρ1 s1 with
        | .ok true s2 => match mi1 ρ1 s2 with
          | .ok dg s3 => match lcGo g1 tt1 te dg.2 dg.1 (wipeE ρ1 vs1) dg.1 s3 acc with
            | .ok acc' s4 => lc2Go g tt mi1 g1 tt1 te gd all vs1 ρ r s4 acc'
            | _ => .no
          | _ => .no
        | .ok false s2 => lc2Go g tt mi1 g1 tt1 te gd all vs1 ρ r s2 acc
        | _ => .no
      | _ => .no) else .no
noncomputable def mLc2 (mi : En → Sto → Res Src) (g : Gm) (tt : En → Sto → Res Bool) (mi1 : En → Sto → Res Src) (g1 : Gm) (tt1 : En → Sto → Res Bool) (te : Ev) (vs vs1 : List Nat) : Ev := fun ρ st => (mi ρ st).bind fun dg s => (lc2Go g tt mi1 g1 tt1 te dg.2 dg.1 vs1 (wipeE ρ vs) dg.1 s []).bind fun ys s' => .ok (.n (.l ys)) s'
theorem Eok.sx {K : Kw} (a : Sx μ F μ1 F1) {ρ : En} {σ : St} (h : Eok K F μ ρ σ) : Eok K F1 μ1 ρ σ :=
  ⟨h.1, fun i x e => let ⟨v, h1, h2⟩ := h.2 i x e; ⟨v, h1, by
    cases x with
    | d x => exact Dq.same a.same h2
    | c i => obtain ⟨p, h3, h4⟩ := h2; exact ⟨p, a.get h3, h4⟩
    | s ns => obtain ⟨p, h3, h4⟩ := h2; exact ⟨p, h3, a.same.seq h4⟩
    | o x =>
      obtain ⟨r, e⟩ := a.preη
      show ObOk K F1 μ1.η x v
      rw [e]
      exact ObOk.same r a.same h2⟩⟩
end
end Cp
/-! Cp9: what a def means, and its call. -/
namespace Cp
open PySem L2
abbrev Fs := List Vl → Sto → Res Rv
/-- room for k calls, and nothing is being shown -/
structure Rm (k : Nat) (A : Around) : Prop where
  room : Room k A
  gd : A.guards = some []
theorem Rm.mono {j k : Nat} {A : Around} (r : Rm k A) (h : j ≤ k) : Rm j A := ⟨r.room.mono h, r.gd⟩
theorem Rm.hu {k : Nat} {A : Around} (r : Rm k A) : A.units + 64 < cLine := r.room.units
/-- a def's promise out of its meaning -/
def spF (K : Kw) (mg : Str → Option Value) (sem : Fs) : Sp := fun vs H Q E => ∃ args st μ F, VokAll K F μ args vs ∧ SR K μ F H st ∧ PostE (Cn.ofE K mg E) Q μ F H (sem args st)
structure FnC (P : Program) (w : World) (K : PySem.W.Frag) (mg : Str → Option Value) (base : Heap) (k : Nat) (f : Addr) (fd : FuncData) (ps : List Str) (sem : Fs) : Prop where
  len : ∀ vs H Q E, spF ⟨K, w⟩ mg sem vs H Q E → vs.length = ps.length
  run : ∀ (A : Around) (outer : List Env) (s : Shared) (H : Hp) (args : Args) (us : List Value) (vs : List V) (Q : VK) (E : XK), Rm k A → Env0 P w K mg base A outer s H → BindsTo s fd args (ps.zip us) → Vals vs us → spF ⟨K, w⟩ mg sem vs H Q E →
    codeAny (model P w) A (.call (.ref f) args) (CR (L2.CX P w) outer P w H s Q E) s
/-- a def that is known by its name -/
def Kn (P : Program) (w : World) (K : PySem.W.Frag) (mg : Str → Option Value) (base : Heap) (x : Str) (k : Nat) (sem : Fs) : Prop :=
  ∃ f fd ps, mg x = some (.ref f) ∧ PySem.W.keepIn K (.ref f) = true ∧ Binds K fd ps [] ∧ FnC P w K mg base k f fd ps sem
section
variable {P : Program} {w : World} {K : PySem.W.Frag} {mg : Str → Option Value} {base : Heap} {x : Str} {k j : Nat} {sem : Fs}
theorem Kn.mono (h : Kn P w K mg base x j sem) (hk : j ≤ k) : Kn P w K mg base x k sem := by
  obtain ⟨f, fd, ps, h1, h2, h3, G⟩ := h
  exact ⟨f, fd, ps, h1, h2, h3, G.len, fun A outer s H args us vs Q E r => G.run A outer s H args us vs Q E (r.mono hk)⟩
end
/-! ### the call -/
def gcR (n : Nat) : Res Rv → Res Rv
  | .ok r s => match r with
    | .d x => .ok (.d x) (s.take n)
    | .s ns => .ok (.s ns) (s.take n)
    | .o x => .ok (.o x) (s.take n)
    | .n c => .ok (.n c) (s.take n)
    | .c i => if i < n then .ok (.c i) (s.take n) else match s[i]? with
      | some c => if isGone c = true then .no else .ok (.n c) (s.take n)
      | none => .no
  | .er e s => .er e (s.take n)
  | .no => .no
def mCall (sem : Fs) (mas : En → Sto → Res (List Vl)) : Ev := fun ρ st => (mas ρ st).bind fun xs s => gcR st.length (sem xs s)
/-- what a body's rules ask of where it stands -/
structure Bd (k : Nat) (X : Cx) (C : Cn) : Prop where
  cm : X.calm = true
  nd : X.N.Nodup
  hp : PassesOwn (model X.prog X.w) X.A X.env X.xe
  ps : ∀ σ, PassesAt (L2.CX X.prog X.w) X σ (C.at σ).E
  hK : C.K.K = X.K
  hw : C.K.w = X.w
  hm : C.mg = X.mg
  rm : Rm k X.A
  tk : Takes X C.W
theorem Bd.blk {k : Nat} {X : Cx} {C : Cn} (B : Bd k X C) (s : Shared) (H : Hp) (scope : Scope) (e : Env) (fp : List Addr) : Bd k (X.blk s H scope e fp) C.quiet :=
  ⟨B.cm, B.nd, PassesOwn.never, fun _ _ _ _ _ _ _ z => passL _ _ _ _ _ _ (by assumption) z, B.hK, B.hw, B.hm, B.rm, fun _ _ ⟨_, _, _, _, _, _, _, _, _, _, _, _, _, _, _, _, w⟩ => False.elim w⟩
theorem call_post {C : Cn} {Q : VK} {μ μ1 : Mu} {F H F1 H1 : Hp} {st : Sto} {r : Res Rv} (h0 : SR C.K μ F H st) (x : Ext μ F H μ1 F1 H1) (h : PostE C Q μ F H (gcR st.length r)) : PostE C Q μ1 F1 H1 r := by
  cases r with
  | no => exact h
  | er e s2 =>
    intro cls dd μ2 F2 H2 y r2 k
    obtain ⟨c1, c2, c3⟩ := r2.cut (x.trans y) st.length h0.len h0.pos
    exact h cls dd _ F2 H2 c2 c1 k
  | ok r s2 =>
    intro v μ2 F2 H2 o
    obtain ⟨y, r2, ok, new⟩ := o
    have z := x.trans y
    obtain ⟨c1, c2, c3⟩ := r2.cut z st.length h0.len h0.pos
    cases r with
    | d d => exact h v _ F2 H2 ⟨c2, c1, ok, fun _ e => nomatch e⟩
    | s ns => exact h v _ F2 H2 ⟨c2, c1, ok, fun _ e => nomatch e⟩
    | o x => exact h v _ F2 H2 ⟨c2, c1, ok, fun _ e => nomatch e⟩
    | n c =>
      obtain ⟨a, o, rfl, g1, g2, g3, g4⟩ := ok
      obtain ⟨a', e1, g5⟩ := new c rfl
      cases e1
      refine h _ _ F2 H2 ⟨c2, c1, ⟨a, o, rfl, g1, g2, g3, fun hm => g4 ?_⟩, fun _ _ => ⟨a, rfl, x.dom a g5⟩⟩
      rcases hm with hm | hm
      · obtain ⟨i, hi, q⟩ := List.getElem_of_mem hm
        have q2 : (μ2.l.take st.length).tail[i]? = some a := (List.getElem?_eq_getElem hi).trans (congrArg some q)
        rw [List.getElem?_tail] at q2
        have hi2 : i + 1 < st.length := by
          have := (List.getElem?_eq_some_iff.mp q2).1
          rw [List.length_take] at this; omega
        rw [List.getElem?_take_of_lt hi2] at q2
        exact Mu.mem_l q2 (by omega)
      · exact .inr hm
    | c i =>
      obtain ⟨a, ha, rfl⟩ := ok
      simp only [gcR] at h
      by_cases hi : i < st.length
      · rw [if_pos hi] at h
        exact h _ _ F2 H2 ⟨c2, c1, ⟨a, by show (μ2.l.take st.length)[i]? = _; rw [List.getElem?_take_of_lt hi]; exact ha, rfl⟩, fun _ e => nomatch e⟩
      · rw [if_neg hi] at h
        cases q : s2[i]? with
        | none => simp only [q] at h; exact False.elim h
        | some cl =>
          simp only [q] at h
          have hz : isGone cl = false := by
            cases e : isGone cl with
            | false => rfl
            | true => rw [if_pos e] at h; exact False.elim h
          rw [if_neg (by rw [hz]; exact Bool.false_ne_true)] at h
          obtain ⟨b, o, g1, g2, g3⟩ := r2.cell i cl q hz
          rw [ha] at g1; cases g1
          have i0 := r2.ne0 q hz
          have hmem : a ∈ μ2 := Mu.mem_l ha i0
          have hn : a ∉ μ2.take st.length := fun hm => by
            rcases hm with hm | hm
            · obtain ⟨j, hj, e⟩ := List.getElem_of_mem hm
              have q2 : (μ2.l.take st.length).tail[j]? = some a := (List.getElem?_eq_getElem hj).trans (congrArg some e)
              rw [List.getElem?_tail] at q2
              have hj2 : j + 1 < st.length := by
                have := (List.getElem?_eq_some_iff.mp q2).1
                rw [List.length_take] at this; omega
              rw [List.getElem?_take_of_lt hj2] at q2
              have := r2.one ha q2 i0 (by omega)
              omega
            · obtain ⟨j, hj, e⟩ := List.getElem_of_mem hm
              exact r2.apart ha ((List.getElem?_eq_getElem hj).trans (congrArg some e)) i0 rfl
          have hn0 : a ∉ μ := fun hm => hn (by
            rcases hm with hm | hm
            · rw [c3] at hm; exact .inl hm
            · obtain ⟨r, e⟩ := z.preη
              exact .inr (by show a ∈ μ2.η; rw [e]; exact List.mem_append_left _ hm))
          exact h _ _ F2 H2 ⟨c2, c1, ⟨a, o, rfl, g2, g3, r2.sep i a cl ha q (notDead hz), hn⟩, fun _ _ => ⟨a, rfl, (z.nC a hmem).elim (fun e => absurd e hn0) id⟩⟩
theorem Post.bindA0 {C : Cn} {μ : Mu} {F H : Hp} {β : Type} {G : β → Sto → Mu → Hp → Hp → Prop} {m : Res (List Vl)} {k : List Vl → Sto → Res β} {Q : List V → Hp → Prop} (h : Post C G μ F H (m.bind k))
    (hk : ∀ x s v μ1 F1 H1, Ext μ F H μ1 F1 H1 → SR C.K μ1 F1 H1 s → VokAll C.K F1 μ1 x v → Post C G μ F H (k x s) → Q v H1) : PostA C Q μ F H m := by
  cases m with
  | ok x s => exact fun v μ1 F1 H1 e s1 o => hk x s v μ1 F1 H1 e s1 o h
  | er e s => exact h
  | no => exact h
section
variable {X : Cx} {C : Cn} {k j : Nat} {x : Str} {p pos : Pos} {e : Expr} {es : List Expr} {mas : En → Sto → Res (List Vl)} {sem : Fs}
theorem s_call (B : Bd k X C) (G : Kn X.prog X.w X.K X.mg X.base x j sem) (hj : j ≤ k) (hg : Gl X x) (ha : PA X (e :: es) (tAs C mas)) (hdb : (x == ("__debug__" : Str)) = false := by decide)
    (he : starEach (e :: es) X.env = (false, eval e X.env) :: starEach es X.env := by rfl) (hpl : (backTo pos (starEach es X.env)).any (·.1) = false := by rfl) : PE X (.Call (.Name x p) (e :: es) [] pos) (tM C (mCall sem mas)) := by
  obtain ⟨f, fd, ps, hm, hkp, hb, G⟩ := G
  obtain ⟨⟨K, w⟩, mg, W, σC⟩ := C
  obtain rfl : K = X.K := B.hK
  obtain rfl : w = X.w := B.hw
  obtain rfl : mg = X.mg := B.hm
  refine ⟨fun pins s σ H Q I ⟨ρ, st, μ, F, h1, h2, h3⟩ => ?_⟩
  refine wpAny_Call_Name_kw (ld_glob I hg hm ?_ hdb)
  refine PySem.W.callWith_K (h₀ := X.base) I.ok.mod.kin hkp (thn (ha.run pos pins s σ H (fun vs H1 => spF ⟨X.K, X.w⟩ X.mg sem vs H1 Q fun cls d H => W cls d σ H) I ⟨ρ, st, μ, F, h1, h2, Post.bindA0 h3 fun xs s1 vs μ1 F1 H1 x1 r1 k1 h4 => ?_⟩) fun us s1 ⟨vs, H1, I1, r, q⟩ => ⟨I1.kIn, ?_⟩) he hpl
  · exact ⟨xs, s1, μ1, F1, k1, r1, call_post h2 x1 h4⟩
  · have hl : us.length = ps.length := by rw [← r.length]; exact G.len _ _ _ _ q
    refine wpAny_call (codeAny_mono (G.run X.A X.stack s1 H1 ⟨us, []⟩ us vs Q (fun cls d H => W cls d σ H) (B.rm.mono hj) I1.env0 (by have hb' := hb s1 us I1.kIn (by simpa using hl); rw [List.append_nil] at hb'; exact hb') r q) fun r' s' hq => ?_)
    cases r' with
    | error e => exact B.ps σ pins H1 s1 e s' I1 hq
    | ok fl =>
      cases fl with
      | ret u => exact I1.after hq
      | next => exact False.elim hq
      | brk => exact False.elim hq
      | cont => exact False.elim hq
end
/-! ### a def of the text means its body -/
def bodyF (n k : Nat) (b : Sv) : Fs := fun args st => if args.length = k then match b (args.map some ++ List.replicate (n - args.length) none) st with
    | .rt r s => .ok r s
    | .nx _ s => .ok (.d .none) s
    | .er e s => .er e s
    | _ => .no
  else .no
section
variable {P : Program} {w : World} {K : PySem.W.Frag} {mg : Str → Option Value} {base : Heap} {k : Nat} {x : Str} {N ps : List Str} {sb : Sv}
theorem VokAll.length {K : Kw} {F : Hp} {μ : Mu} : ∀ {xs : List Vl} {vs : List V}, VokAll K F μ xs vs → xs.length = vs.length
  | _, _, .nil => rfl
  | _, _, .cons _ r => by rw [List.length_cons, List.length_cons, VokAll.length r]
theorem start_ok {K : Kw} {F : Hp} {μ : Mu} {args : List Vl} {vs : List V} (N : List Str) (h : VokAll K F μ args vs) : Eok K F μ (args.map some ++ List.replicate (N.length - args.length) none) (L2.start N vs) := by
  have hl := h.length
  refine ⟨by unfold L2.start; simp [hl], fun i y e => ?_⟩
  unfold L2.start
  by_cases hi : i < args.length
  · rw [List.getElem?_append_left (by simpa using hi), List.getElem?_map] at e
    rw [List.getElem?_append_left (by rw [List.length_map, ← hl]; exact hi), List.getElem?_map]
    have key : ∀ {xs : List Vl} {vs : List V} {i : Nat} {y : Vl}, VokAll K F μ xs vs → xs[i]? = some y → ∃ v, vs[i]? = some v ∧ Vok K F μ y v := by
      intro xs vs i y h e
      induction h generalizing i with
      | nil => simp at e
      | cons h1 r ih =>
        cases i with
        | zero => simp at e; subst e; exact ⟨_, rfl, h1⟩
        | succ i =>
          obtain ⟨v, k1, k2⟩ := ih (by simpa using e)
          exact ⟨v, by simpa using k1, k2⟩
    cases q : args[i]? with
    | none => rw [q] at e; cases e
    | some z =>
      rw [q] at e; cases e
      obtain ⟨v, k1, k2⟩ := key h q
      exact ⟨v, by rw [k1]; rfl, k2⟩
  · rw [List.getElem?_append_right (by simpa using hi), List.getElem?_replicate] at e
    split at e <;> cases e
theorem fn_of {st : Stmt} {f : Addr} {fd : FuncData} (F : Fun K x x st f fd) (S : FnScope N ps (defScope st))
    (body : ∀ (cdv : Value) (A : Around) (outer : List Env) (s : Shared) (H : Hp) (E : XK), Bd k (cxOf (L2.CX P w) P w K mg base N x (defScope st) f cdv A outer s H E) (Cn.ofE ⟨K, w⟩ mg E) →
      PSs (cxOf (L2.CX P w) P w K mg base N x (defScope st) f cdv A outer s H E) (defBody st) (tS (Cn.ofE ⟨K, w⟩ mg E) sb)) : FnC P w K mg base (k + 1) f fd ps (bodyF N.length ps.length sb) := by
  obtain ⟨oc, od, kV, doc, pm, an, cdv, ct, osl, rfl, lk, hcd⟩ := F.ex
  have hlen : ∀ vs H Q E, spF ⟨K, w⟩ mg (bodyF N.length ps.length sb) vs H Q E → vs.length = ps.length := fun vs H Q E ⟨args, st, μ, F, a, b, c⟩ => by
    unfold bodyF at c
    by_cases hl : args.length = ps.length
    · rw [← a.length, hl]
    · rw [if_neg hl] at c; exact False.elim c
  refine ⟨hlen, fun A outer s H args us vs Q E hr e0 hbd r hsp => ?_⟩
  have hl := hlen _ _ _ _ hsp
  have KX : K.In s.heap := e0.mod.kin.keeps fun b o e => (e0.bs b o e).1
  have lim : s.heap.NoLimit := e0.mod.nolimit.keeps fun b o e => (e0.bs b o e).1
  have hkind : ∀ y ∈ ps.zip us, (defScope st).names.lookup y.1 = some .local ∨ ((defScope st).names.lookup y.1 = some .cell ∧ ((cellsFrom (s.heap.objs.size + 1) (defScope st).names []).lookup y.1).isSome = true) := fun ⟨n, v⟩ hy =>
    (S.par n (List.of_mem_zip hy).1).imp id fun q => ⟨q, PySem.W.cellsFrom_some _ _ _ (.inl q)⟩
  refine codeAny_call_function hr.room.depth (KX _ _ lk) rfl S.co S.gen rfl (PySem.W.codeRec_of KX hcd) (hbd _ _ _ _ ?_)
  refine wpAny_newFunctionEnv_cells S.kind hkind fun env he s1 y => ?_
  subst he
  refine ⟨lim.keeps y.toInCall.keep, codeAny_func ?_⟩
  have hr2 : Rm k (A.deeper (PyProof.Rows.envOfC x (defScope st) s.heap.objs.size f cdv)) := ⟨hr.room.deeper _, hr.gd⟩
  have I : Inv (cxOf (L2.CX P w) P w K mg base N x (defScope st) f cdv A outer s H E) [] (L2.start N vs) H s1 := inv_start S hr.room.hd e0 hl r y
  have bd : Bd k (cxOf (L2.CX P w) P w K mg base N x (defScope st) f cdv A outer s H E) (Cn.ofE ⟨K, w⟩ mg E) := ⟨rfl, S.nd, passes_of rfl, fun σ pins H s e s' I c => passes_call (takes_of rfl rfl rfl rfl) (fun _ _ _ _ h => h) pins σ H s e s' I c, rfl, rfl, rfl, hr2, takes_of rfl rfl rfl rfl⟩
  obtain ⟨as, st0, μ, F0, a, b, c⟩ := hsp
  have hal : as.length = ps.length := by rw [a.length, hl]
  unfold bodyF at c
  rw [if_pos hal] at c
  refine wpAny_mono ((body cdv A outer s H E bd).run [] s1 (L2.start N vs) H { nx := fun _ H' => Q .non H', rt := Q } I ⟨_, st0, μ, F0, start_ok N a, b, ?_⟩) (fun fl s' hs => ?_) fun e s' hs => hs
  · show PostS _ _ μ F0 H (sb (as.map some ++ List.replicate (N.length - as.length) none) st0)
    cases q : sb (as.map some ++ List.replicate (N.length - as.length) none) st0 with
    | rt r s => simp only [q] at c; exact c
    | nx ρ s => simp only [q] at c; exact fun σ' μ' F' H' x2 r2 _ => c .non μ' F' H' ⟨x2, r2, .non, fun _ e => nomatch e⟩
    | er e s => simp only [q] at c; exact c
    | bk ρ s => simp only [q] at c; exact False.elim c
    | ct ρ s => simp only [q] at c; exact False.elim c
    | no => simp only [q] at c; exact False.elim c
  · have fin : ∀ {σ' : St} {H' : Hp} {v : V} {u : Value}, Inv (cxOf (L2.CX P w) P w K mg base N x (defScope st) f cdv A outer s H E) [] σ' H' s' → RelV v u → Q v H' → CE outer P w H s Q u s' :=
      fun {σ' H' v u} J rv q => ⟨v, H', J.os, J.bare, J.base, J.hok, rv, q⟩
    cases fl with
    | ret u => obtain ⟨v, σ', H', J, rv, q⟩ := hs; exact fin J rv q
    | next => obtain ⟨σ', H', J, q⟩ := hs; exact fin (v := V.non) (u := Value.none) J rfl q
    | brk => obtain ⟨_, _, _, q⟩ := hs; exact False.elim q
    | cont => obtain ⟨_, _, _, q⟩ := hs; exact False.elim q
end
end Cp
/-! Cpe: the end of a law. -/
namespace Cp
open PySem L2
section
open PySem.W PyProof.Rows
variable {P : Program} {w : World} {K : Frag} {mg mb : Str → Option Value} {k : Nat} {fa a : Addr} {fd : FuncData} {x : Str} {sem : Fs} {s0 : Shared} {vs : List Value} {ns : List Int}
/-- the law's own call where at most the script is tracked -/
theorem law_core (KX : K.In s0.heap) (hns : s0.heap.Ns mainGlobals mg) (hb : s0.heap.Ns builtinsNs mb) (hbb : ∀ y : Str, y ≠ "__name__" → mb y = bootBuiltins y) (hlim : s0.heap.NoLimit) (hg : s0.gens = #[])
    (ha : s0.heap.get? a = some { cls := .type "list", data := .seq vs.toArray }) (hr : Rm k callerA)
    (F : ∀ base : Heap, K.In base → base.Ns mainGlobals mg → FnC P w K mg base k fa fd [x] sem) (hbind : ∀ (s : Shared) (u : Value), BindsTo s fd ⟨[u], []⟩ [(x, u)])
    (H : Hp) (hO : Only H) (hS : SqL K H a (ns.map V.int)) (hok : HOk P w H s0.heap) (hA : ∀ b, H b ≠ none → b = a) (hK : H a ≠ none → K.lookup a = none) (hsem : ∃ st, sem [.s ns] [heapC []] = .ok (.d (.bool true)) st) :
    codeAny (model P w) callerA (.call (.ref fa) ⟨[.ref a], []⟩) (fun r s' => r = .ok (.ret (.bool true)) ∧ OldK s0.heap s'.heap ∧ s'.os = s0.os ∧ AllBare s'.gens) s0 := by
  have isA : ∀ {b : Addr} {u : HO}, H b = some u → b = a := fun {b u} q => hA b fun z => by rw [z] at q; cases q
  have notDict : ∀ {b : Addr} {o : Obj} {es : Array DictEntry} {n : Nat}, s0.heap.get? b = some o → o.data = .dict es n → H b = none := fun {b o es n} e d => by
    cases q : H b with
    | none => rfl
    | some u =>
      have := isA q
      subst this
      rw [ha] at e; cases e
      cases (show Data.seq vs.toArray _ = Data.dict es n from d)
  have same : ∀ {b : Addr} {m : Str → Option Value}, s0.heap.Ns b m → (hidT s0.heap H).Ns b m := fun ⟨o, es, n, e, d, r⟩ => ⟨o, es, n, hidT_get e (notDict e d), d, r⟩
  have inB : K.In (hidT s0.heap H) := fun b o e => hidT_get (KX b o e) (by
    cases q : H b with
    | none => rfl
    | some u =>
      have := isA q
      subst this
      rw [hK (by rw [q]; exact fun z => by cases z)] at e
      cases e)
  have M : Mod K mg (hidT s0.heap H) := ⟨inB, same hns, ⟨mb, same hb, hbb⟩, let ⟨mc, h1, h2⟩ := hlim; ⟨mc, same h1, h2⟩⟩
  have none0 : ∀ b : Addr, b ∉ frs [] := fun b z => by cases z
  have e0 : Env0 P w K mg (hidT s0.heap H) callerA [] s0 H := ⟨rfl, M, fun b o e => of_hidT e, Nat.le_of_eq (hidT_size _ _), trivial, fun b z => absurd z (none0 b), hok, .of_eq hg⟩
  obtain ⟨st, hsem⟩ := hsem
  have sp : spF ⟨K, w⟩ mg sem [.ref a] H (fun v _ => v = .bl true) (fun _ _ _ => False) := by
    refine ⟨[.s ns], [heapC []], ⟨[a], []⟩, H, .cons ⟨a, rfl, hS⟩ .nil, ⟨List.nodup_nil, rfl, (fun i b c z z2 z3 => by
      cases i with
      | zero => cases z2; cases z3
      | succ i => simp at z2), Same.refl H, (fun i c i0 z => by
      cases i with
      | zero => exact absurd rfl i0
      | succ i => simp at z), ⟨[], rfl, rfl, fun j x z => by simp at z⟩⟩, ?_⟩
    rw [hsem]
    intro v μ' F' H' o
    cases (show Dq ⟨K, w⟩ F' v (.bool true) from o.rok)
    rfl
  refine codeAny_mono ((F _ inB (same hns)).run callerA [] s0 H ⟨[.ref a], []⟩ [.ref a] [.ref a] _ _ hr e0 (hbind s0 (.ref a)) (.cons rfl .nil) sp) fun r s' h => ?_
  cases r with
  | error e =>
    obtain ⟨_, _, _, _, _, _, _, _, _, _, _, _, z⟩ := h
    exact z.elim
  | ok fl =>
    cases fl with
    | ret u =>
      obtain ⟨v, H', os, bare, un, hok', rv, q⟩ := h
      cases (show v = .bl true from q)
      cases (show u = Value.bool true from rv)
      refine ⟨rfl, OldK.of_keep fun b o e => ?_, os, bare⟩
      cases q : H b with
      | none => exact un.keep b o e q (none0 b) (by simp)
      | some u =>
        rcases hO b with z | ⟨ob, xs, z⟩
        · rw [q] at z; cases z
        · obtain ⟨e1, _⟩ := hok b _ z
          obtain ⟨e2, _⟩ := hok' b _ (un.frzs b ob _ z)
          rw [e] at e1; cases e1
          exact e2
    | next => exact False.elim h
    | brk => exact False.elim h
    | cont => exact False.elim h
theorem law_any (KX : K.In s0.heap) (hns : s0.heap.Ns mainGlobals mg) (hb : s0.heap.Ns builtinsNs mb) (hbb : ∀ y : Str, y ≠ "__name__" → mb y = bootBuiltins y) (hlim : s0.heap.NoLimit) (hg : s0.gens = #[])
    (ha : s0.heap.get? a = some { cls := .type "list", data := .seq vs.toArray }) (hi : IntsAre vs ns) (hl : ns.length ≤ sizeLine) (hr : Rm k callerA)
    (F : ∀ base : Heap, K.In base → base.Ns mainGlobals mg → FnC P w K mg base k fa fd [x] sem) (hbind : ∀ (s : Shared) (u : Value), BindsTo s fd ⟨[u], []⟩ [(x, u)]) (hsem : ∃ st, sem [.s ns] [heapC []] = .ok (.d (.bool true)) st) :
    codeAny (model P w) callerA (.call (.ref fa) ⟨[.ref a], []⟩) (fun r s' => r = .ok (.ret (.bool true)) ∧ OldK s0.heap s'.heap ∧ s'.os = s0.os ∧ AllBare s'.gens) s0 := by
  have rv := vals_ints hi
  have hl2 : (ns.map V.int).length ≤ sizeLine := by rw [List.length_map]; exact hl
  have go := law_core (ns := ns) KX hns hb hbb hlim hg ha hr F hbind
  cases hk : K.lookup a with
  | some o =>
    have e := KX a o hk
    rw [ha] at e; cases e
    exact go (fun _ => none) (fun _ => .inl rfl) (.inr ⟨_, vs.toArray, _, hk, rfl, rfl, rfl, by rw [List.size_toArray, ← rv.length]; exact hl2, by simpa using rv⟩) (fun b u z => by cases (show (none : Option HO) = some u from z)) (fun b z => absurd rfl z) (fun z => absurd rfl z) hsem
  | none =>
    have at1 : (fun b => if b = a then some (HO.frz { cls := .type "list", data := .seq vs.toArray } (.lst (ns.map V.int))) else none) a = some (HO.frz { cls := .type "list", data := .seq vs.toArray } (.lst (ns.map V.int))) := if_pos rfl
    have at2 : ∀ {b u}, (fun b => if b = a then some (HO.frz { cls := .type "list", data := .seq vs.toArray } (.lst (ns.map V.int))) else none) b = some u → b = a ∧ u = HO.frz { cls := .type "list", data := .seq vs.toArray } (.lst (ns.map V.int)) := fun {b u} z => by
      by_cases h : b = a
      · exact ⟨h, by have z' := (if_pos h).symm.trans z; cases z'; rfl⟩
      · have z' := (if_neg h).symm.trans z; cases z'
    refine go (fun b => if b = a then some (.frz { cls := .type "list", data := .seq vs.toArray } (.lst (ns.map V.int))) else none) (fun b => ?_) (.inl (.inr ⟨_, at1⟩)) (fun b u z => ?_) (fun b z => ?_) (fun _ => hk) hsem
    · by_cases h : b = a
      · exact .inr ⟨_, _, if_pos h⟩
      · exact .inl (if_neg h)
    · obtain ⟨rfl, rfl⟩ := at2 z
      exact ⟨ha, hl2, vs, _, rv, ha⟩
    · by_cases h : b = a
      · exact h
      · exact absurd (if_neg h) z
theorem law_room {k : Nat} (h : k ≤ 230) : Rm k callerA := ⟨⟨rfl, by show 1 + 300 + 3 * k + 5 < 1000; omega, by show 4 + 16 * k + 200 < 9900; omega⟩, rfl⟩
end
end Cp
/-! Cpo: the rules by Python's words, defs by the head's facts. -/
namespace Cp
open PySem L2
section
open PySem.Spec PyProof.Rows
/-- a tuple times one, times nothing -/
theorem tuple_mul1 (l : Addr) (items : Array Value) (n : Nat) (dd : Option Addr) (sl : Array (Option Value)) (u : Tok) :
    Meets (Builtin.«tuple.__mul__» ⟨[.ref l, .int 1 u], []⟩) (fun _ R s => s.heap.get? l = some { cls := .type "tuple", dict := dd, data := .seq items n, slots := sl } ∧ R (.ok (.ret (Value.ref l))) s) :=
  .of_wp fun prog w A R s h => by
    obtain ⟨hp, g, d, tk, os⟩ := s
    obtain ⟨hl, h⟩ := h
    have f1 := AutoSeq1.idx_int
    wp_walk using wpAny_loadPart' hl
    have c1 : ((items.isEmpty || (1 : Int) == 1) = true) := by rw [Bool.or_eq_true]; exact .inr rfl
    repeat (first
      | (refine wpAny_ite_false (decide_eq_false (by decide)) ?_; wp_walk using wpAny_loadPart' hl)
      | (refine wpAny_ite_true (decide_eq_true c1) ?_; wp_walk using wpAny_loadPart' hl))
    exact ⟨_, rfl, h⟩
theorem tuple_mul0 (l : Addr) (items : Array Value) (n : Nat) (dd : Option Addr) (sl : Array (Option Value)) (x : Int) (u : Tok) (c0 : (decide (x < -(2 ^ 63)) || decide (x ≥ 2 ^ 63)) = false) (c1 : (items.isEmpty || x == 1) = false) (c2 : (decide (x ≤ 0) || items.isEmpty) = true) :
    Meets (Builtin.«tuple.__mul__» ⟨[.ref l, .int x u], []⟩) (fun _ R s => s.heap.get? l = some { cls := .type "tuple", dict := dd, data := .seq items n, slots := sl } ∧
      R (.ok (.ret (Value.ref s.heap.objs.size))) { s with heap := s.heap.push { cls := Value.type "tuple", data := Data.seq #[] }, toks := s.toks }) :=
  .of_wp fun prog w A R s h => by
    obtain ⟨hp, g, d, tk, os⟩ := s
    obtain ⟨hl, h⟩ := h
    have f1 := AutoSeq1.idx_int
    wp_walk using wpAny_loadPart' hl
    repeat (first
      | (refine wpAny_ite_false (decide_eq_false (by rw [c0]; exact Bool.false_ne_true)) ?_; wp_walk using wpAny_loadPart' hl)
      | (refine wpAny_ite_false (decide_eq_false (by rw [c1]; exact Bool.false_ne_true)) ?_; wp_walk using wpAny_loadPart' hl)
      | (refine wpAny_ite_true (decide_eq_true c2) ?_; wp_walk using wpAny_loadPart' hl))
    exact ⟨_, rfl, h⟩
def rRepT2 (K : PySem.W.Frag) : R2 := fun x y H Q => ∃ l k xs, x = .ref l ∧ y = .int k ∧ SqT K H l xs ∧ xs ≠ [] ∧ -1000 ≤ k ∧ k ≤ 1 ∧ xs.length ≤ 1000 ∧ (k = 1 → Q (.ref l) H) ∧ (k ≤ 0 → ∀ p, H p = none → Q (.ref p) (upd H p (.tup [])))
theorem op_repT2 {X : Cx} : OpR X (binaryOp .Mult) (rRepT2 X.K) := by
  intro pins s σ H x y v u Q I rx ry h
  obtain ⟨l, k, xs, rfl, rfl, hT, hne, h1, h2, hz, q1, q0⟩ := h
  cases rx
  obtain ⟨t, rfl⟩ := ry
  obtain ⟨its, r, ⟨⟨cls, dd, data, sl⟩, ho, hc, n, hd⟩, hs⟩ := I.tuple hT
  simp only at hc hd
  subst hc hd
  have hle : its.length = xs.length := r.length.symm
  have hn : its ≠ [] := fun e => hne (by
    rw [e] at hle
    exact List.eq_nil_of_length_eq_zero hle.symm)
  have hi : its.toArray.isEmpty = false := by
    cases its with
    | nil => exact absurd rfl hn
    | cons a b => rfl
  by_cases hk : k = 1
  · subst hk
    exact wpAny_binaryOp_repeat_ref (T := "tuple") (U := "int") (by decide) ⟨_, ho, rfl⟩ (fun s' => typeIs_int s' 1 t) noFill_tuple_mul F.fills_int_mul F.slot_int_rmul repeat_tuple F.slot_int_index.lookup
      (call_meets F.slot_int_rmul (typeIs_int s 1 t) F.entry_int_rmul (F.args_int_rmul_2 _ _) (int_rmul_tuple 1 t l its.toArray n dd sl)
        ⟨ho, rfl, ⟨_, ho, rfl⟩, call_meets F.slot_tuple_mul ⟨_, ho, rfl⟩ F.entry_tuple_mul (F.args_tuple_mul_2 _ _) (tuple_mul1 l its.toArray n dd sl t) ⟨ho, .ref l, H, I, rfl, q1 rfl⟩⟩)
  · have c0 : (decide (k < -(2 ^ 63)) || decide (k ≥ 2 ^ 63)) = false := by
      rw [decide_eq_false (by omega), decide_eq_false (by omega)] <;> rfl
    have c1 : (its.toArray.isEmpty || k == 1) = false := by
      rw [hi, Bool.false_or]
      exact beq_eq_false_iff_ne.mpr hk
    have c2 : (decide (k ≤ 0) || its.toArray.isEmpty) = true := by
      rw [decide_eq_true (by omega)]; rfl
    refine wpAny_binaryOp_repeat_ref (T := "tuple") (U := "int") (by decide) ⟨_, ho, rfl⟩ (fun s' => typeIs_int s' k t) noFill_tuple_mul F.fills_int_mul F.slot_int_rmul repeat_tuple F.slot_int_index.lookup
      (call_meets F.slot_int_rmul (typeIs_int s k t) F.entry_int_rmul (F.args_int_rmul_2 _ _) (int_rmul_tuple k t l its.toArray n dd sl)
        ⟨ho, rfl, ⟨_, ho, rfl⟩, call_meets F.slot_tuple_mul ⟨_, ho, rfl⟩ F.entry_tuple_mul (F.args_tuple_mul_2 _ _) (tuple_mul0 l its.toArray n dd sl k t c0 c1 c2) ⟨ho, ?_⟩⟩)
    refine ⟨.ref s.heap.objs.size, _, I.laid (t' := s.toks) (o := .tup []) (fun b ob q => Heap.get?_push_of_some _ q) (Nat.le_refl _) ?_, rfl, q0 (by omega) _ (I.hok.fresh (Nat.le_refl _))⟩
    exact ⟨Nat.zero_le _, [], .nil, IsTup.new _ _⟩
end
section
variable {X : Cx} {C : Cn} {k j : Nat} {x : Str} {p pos apos : Pos} {e a b c : Expr} {es : List Expr} {m ma mb mc : Ev} {mas : En → Sto → Res (List Vl)}
/-- + -/
def fAdd : PyData → PyData → Option Rv
  | .int i, .int j => some (.d (.int (i + j)))
  | .str i, .str j => if i.length + j.length ≤ sizeLine then some (.d (.str (i ++ j))) else none
  | .tuple i, .tuple j => if i.length + j.length ≤ sizeLine then some (.d (.tuple (i ++ j))) else none
  | .list i, .list j => if i.length + j.length ≤ sizeLine then some (.n (.l (i ++ j))) else none
  | _, _ => none
theorem BinOk.of {r : R2} {f g : PyData → PyData → Option Rv} (h : BinOk C r f) (e : ∀ a b z, g a b = some z → f a b = some z) : BinOk C r g := fun a b res v u μ F H st Q s va vb q p => h a b res v u μ F H st Q s va vb (e a b res q) p
theorem s_add (ha : PE X a (tM C ma)) (hb : PE X b (tM C mb)) : PE X (.BinOp a .Add b pos) (tM C (mBin fAdd ma mb)) :=
  s_bin (op_add.or (op_add_str.or (op_catA.or op_cat))) (BinOk.of (fI0_ok.or (fCatS_ok.or (fCatT_ok.or fCatL_ok))) fun a b z h => by
    cases a <;> cases b <;> first | exact h | (simp only [fI, fCatS, fCatT, fCatL, fAdd, if_true] at h ⊢; first | exact h | (split at h <;> first | (cases h; done) | (cases h; simp [*])))) ha hb
def pMul (i j : Int) : Bool := decide (i.natAbs.log2 + j.natAbs.log2 < 1000000)
def repD (xs : List PyData) (k : Int) : List PyData := (List.replicate k.toNat xs).flatten
/-- * -/
def fMul : PyData → PyData → Option Rv
  | .int i, .int j => if pMul i j then some (.d (.int (i * j))) else none
  | .list xs, .int k => if -(2 ^ 63) ≤ k ∧ k < 2 ^ 63 ∧ xs.length * k.toNat ≤ sizeLine then some (.n (.l (repD xs k))) else none
  | .tuple xs, .int k => if xs ≠ [] ∧ -1000 ≤ k ∧ k ≤ 1000 ∧ xs.length ≤ 1000 then some (.d (.tuple (repD xs k))) else none
  | _, _ => none
theorem rep_dq {K : Kw} {F : Hp} {xs : List V} {ds : List PyData} (h : DqAll K F xs ds) (n : Nat) : DqAll K F (List.replicate n xs).flatten (List.replicate n ds).flatten := by
  induction n with
  | zero => exact .nil
  | succ n ih => rw [List.replicate_succ, List.replicate_succ, List.flatten_cons, List.flatten_cons]; exact h.app ih
theorem fMul_ok {K : PySem.W.Frag} : BinOk C (fun x y H Q => rI CMulW (fun i j => .int (i * j)) x y H Q ∨ rRep x y H Q ∨ rRepT K x y H Q ∨ rRepT2 K x y H Q) fMul := by
  intro a b res v u μ F H st Q s va vb e h
  unfold fMul at e
  split at e
  · split at e
    · rename_i hh
      cases e
      exact .inl ⟨_, _, va.int, vb.int, (by simpa [pMul, CMulW] using hh), fin_d s h (.int _)⟩
    · cases e
  · split at e
    · rename_i hh
      cases e
      obtain ⟨q, ys, rfl, q1, q2⟩ := va
      exact .inr (.inl ⟨q, _, ys, rfl, vb.int, q1, hh.1, hh.2.1, by rw [q2.length]; exact hh.2.2, fun z hz => fin_n s h hz ⟨_, rfl, rep_dq q2 _⟩⟩)
    · cases e
  · split at e
    · rename_i xs k hh
      cases e
      obtain ⟨q, ys, rfl, q1, q2⟩ := va.tup
      have ne : ys ≠ [] := fun z => hh.1 (by subst z; cases q2; rfl)
      have hln : ys.length ≤ 1000 := by rw [q2.length]; exact hh.2.2.2
      by_cases h2 : 2 ≤ k
      · exact .inr (.inr (.inl ⟨q, _, ys, rfl, vb.int, SqT.rd s.sub q1, ne, h2, hh.2.2.1, hln, fun z hz => fin_t s h hz (rep_dq q2 _)⟩))
      · refine .inr (.inr (.inr ⟨q, _, ys, rfl, vb.int, SqT.rd s.sub q1, ne, hh.2.1, by omega, hln, fun e1 => ?_, fun e0 z hz => ?_⟩))
        · subst e1
          have e : repD xs 1 = xs := by unfold repD; simp
          rw [e] at h
          exact fin_d s h (.tup q1 q2)
        · have e : repD xs k = [] := by unfold repD; rw [Int.toNat_of_nonpos e0]; rfl
          rw [e] at h
          exact fin_t s h hz .nil
    · cases e
  · cases e
def pDiv (_ j : Int) : Bool := decide (0 < j) && decide (j.natAbs.log2 < 9000)
theorem s_fdiv (ha : PE X a (tM C ma)) (hb : PE X b (tM C mb)) : PE X (.BinOp a .FloorDiv b pos) (tM C (mBin (fI pDiv fun i j => i / j) ma mb)) :=
  s_bin op_fdivW (fI_ok fun i j h => by simpa [pDiv, CDivW] using h) ha hb
def pPos (_ j : Int) : Bool := decide (0 < j)
theorem s_mod (ha : PE X a (tM C ma)) (hb : PE X b (tM C mb)) : PE X (.BinOp a .Mod b pos) (tM C (mBin (fI pPos fun i j => i % j) ma mb)) := s_bin op_mod (fI_ok fun i j h => of_decide_eq_true h) ha hb
def CPowW (i j : Int) : Prop := 0 ≤ j ∧ (Builtin.Int.intBits i : Int) * j ≤ 2 ^ 27
theorem op_powW : OpR X (binaryOp .Pow) (rI CPowW fun i j => .int (i ^ j.toNat)) := opI fun _ _ _ _ _ _ _ hc q => PyProof.Rows.pow_int hc.1 hc.2 q
def pPow (i j : Int) : Bool := decide (0 ≤ j) && decide ((Builtin.Int.intBits i : Int) * j ≤ 2 ^ 27)
theorem s_pow (ha : PE X a (tM C ma)) (hb : PE X b (tM C mb)) : PE X (.BinOp a .Pow b pos) (tM C (mBin (fI pPow fun i j => i ^ j.toNat) ma mb)) :=
  s_bin op_powW (fI_ok fun i j h => by unfold pPow at h; simp only [Bool.and_eq_true, decide_eq_true_eq] at h; exact ⟨h.1, h.2⟩) ha hb
def fNeg : PyData → Option PyData
  | .int i => some (.int (-i))
  | _ => none
def mNeg (m : Ev) : Ev := fun ρ st => (mV m ρ st).bind fun x s => match (view s x).bind fNeg with
  | some d => .ok (.d d) s
  | none => .no
/-! ### comparisons: as a test, as a value -/
theorem t_ne (B : Bd k X C) (ha : PE X a (tM C ma)) (hb : PE X b (tM C mb)) : PT X (.Compare a [.NotEq] [b] pos) (tT C (mCmp gNe ma mb)) := s_cmpT (op_neD B.rm.hu) gNe_ok ha hb (nomark _)
theorem t_lt (ha : PE X a (tM C ma)) (hb : PE X b (tM C mb)) : PT X (.Compare a [.Lt] [b] pos) (tT C (mCmp (gI fun i j => decide (i < j)) ma mb)) := s_cmpT op_lt gI_ok ha hb (nomark _)
theorem t_gt (ha : PE X a (tM C ma)) (hb : PE X b (tM C mb)) : PT X (.Compare a [.Gt] [b] pos) (tT C (mCmp (gI fun i j => decide (j < i)) ma mb)) := s_cmpT op_gt gI_ok ha hb (nomark _)
theorem t_in (ha : PE X a (tM C ma)) (hb : PE X b (tM C mb)) (hm : behindInMarks .In b = false) : PT X (.Compare a [.In] [b] pos) (tT C (mCmp (gIn false) ma mb)) := s_cmpT op_in_seq gIn_ok ha hb hm
theorem v_eq (B : Bd k X C) (ha : PE X a (tM C ma)) (hb : PE X b (tM C mb)) : PE X (.Compare a [.Eq] [b] pos) (tM C (bV (mCmp gEq ma mb))) := s_cmp (op_eqD B.rm.hu) gEq_ok ha hb (nomark _)
theorem v_ge (ha : PE X a (tM C ma)) (hb : PE X b (tM C mb)) : PE X (.Compare a [.GtE] [b] pos) (tM C (bV (mCmp (gI fun i j => decide (j ≤ i)) ma mb))) := s_cmp op_ge gI_ok ha hb (nomark _)
/-! ### built-in functions -/
abbrev NA (X : Cx) (es : List Expr) (pos : Pos) : Prop := (backTo pos (starEach es X.env)).any (·.1) = false
theorem k_len (B : Bd k X C) (hg : Gl X "len") (hm : X.mg "len" = none) (ha : PA X [a] (tAs C mas)) (he : starEach [a] X.env = (false, eval a X.env) :: starEach [] X.env := by rfl) (hpl : NA X [] pos := by rfl) : PE X (.Call (.Name "len" p) [a] [] pos) (tM C (mCal gLen mas)) :=
  s_callB call_len (gLen_ok B.hK) hg hm boot_len ha (by decide) (by decide) he hpl
theorem k_abs (hg : Gl X "abs") (hm : X.mg "abs" = none) (ha : PA X [a] (tAs C mas)) (he : starEach [a] X.env = (false, eval a X.env) :: starEach [] X.env := by rfl) (hpl : NA X [] pos := by rfl) : PE X (.Call (.Name "abs" p) [a] [] pos) (tM C (mCal (g1 fAbs) mas)) :=
  s_callB (c_abs (X := X) (C := C)).1 (c_abs (X := X) (C := C)).2 hg hm (by decide +kernel) ha (by decide) (by decide) he hpl
theorem k_max (B : Bd k X C) (hg : Gl X "max") (hm : X.mg "max" = none) (ha : PA X [a, b] (tAs C mas)) (he : starEach [a, b] X.env = (false, eval a X.env) :: starEach [b] X.env := by rfl) (hpl : NA X [b] pos := by rfl) : PE X (.Call (.Name "max" p) [a, b] [] pos) (tM C (mCal (gII fun i j => if j > i then j else i) mas)) :=
  s_callB (call_max2 B.cm) (gII_ok fun i j H Q q => ⟨i, j, rfl, q⟩) hg hm (by decide +kernel) ha (by decide) (by decide) he hpl
theorem k_min (B : Bd k X C) (hg : Gl X "min") (hm : X.mg "min" = none) (ha : PA X [a, b] (tAs C mas)) (he : starEach [a, b] X.env = (false, eval a X.env) :: starEach [b] X.env := by rfl) (hpl : NA X [b] pos := by rfl) : PE X (.Call (.Name "min" p) [a, b] [] pos) (tM C (mCal (gII fun i j => if j < i then j else i) mas)) :=
  s_callB (call_min2 B.cm) (gII_ok fun i j H Q q => ⟨i, j, rfl, q⟩) hg hm (by decide +kernel) ha (by decide) (by decide) he hpl
theorem k_repr (B : Bd k X C) (hS : SysK X.K) (hg : Gl X "repr") (hm : X.mg "repr" = none) (ha : PA X [a] (tAs C mas)) (he : starEach [a] X.env = (false, eval a X.env) :: starEach [] X.env := by rfl) (hpl : NA X [] pos := by rfl) : PE X (.Call (.Name "repr" p) [a] [] pos) (tM C (mCal (g1 fRepr) mas)) :=
  s_callB (cr_repr hS B.rm.hu B.rm.gd) fRepr_ok hg hm (by decide +kernel) ha (by decide) (by decide) he hpl
theorem k_int (hg : Gl X "int") (hm : X.mg "int" = none) (ha : PA X [a] (tAs C mas)) (he : starEach [a] X.env = (false, eval a X.env) :: starEach [] X.env := by rfl) (hpl : NA X [] pos := by rfl) : PE X (.Call (.Name "int" p) [a] [] pos) (tM C (mCal (g1 fInt) mas)) :=
  s_callTy call_int1 fInt_ok hg hm (by decide +kernel) ha (by decide) (by decide) he hpl
/-! ### methods of lists -/
theorem y_app {o : Expr} {cpos : Pos} (ho : PE X o (tM C ma)) (he : PE X e (tM C mb)) (hbase : attributeBase o "append" X.env (eval o X.env) = eval o X.env := by rfl)
    (hfew : ((backTo cpos (starEach [e] X.env)).all (fun x => !x.1) && (backToKw cpos (keywordEach [] X.env)).all (fun x => x.1.isSome) && decide ([e].length + ([] : List Keyword).length + (if ([] : List Keyword).isEmpty then 0 else 1) < 30)) = true := by rfl)
    (hline : (apos.endLine == cpos.line) = true := by rfl) (hs : starEach [e] X.env = (false, eval e X.env) :: starEach [] X.env := by rfl) (hpl : NA X [] cpos := by rfl) : PE X (.Call (.Attribute o "append" apos) [e] [] cpos) (tM C (mApp ma mb)) :=
  s_app (pe_bm PySem.F.plainAttrs_list PySem.F.slot_list_append PySem.F.type_list_append mt_append (pv_frz ho) (pa_cons (pv_frz he) pa_nil hs) hbase hfew hline hs hpl)
theorem y_ext {o : Expr} {cpos : Pos} (ho : PE X o (tM C ma)) (he : PE X e (tM C mb)) (hbase : attributeBase o "extend" X.env (eval o X.env) = eval o X.env := by rfl)
    (hfew : ((backTo cpos (starEach [e] X.env)).all (fun x => !x.1) && (backToKw cpos (keywordEach [] X.env)).all (fun x => x.1.isSome) && decide ([e].length + ([] : List Keyword).length + (if ([] : List Keyword).isEmpty then 0 else 1) < 30)) = true := by rfl)
    (hline : (apos.endLine == cpos.line) = true := by rfl) (hs : starEach [e] X.env = (false, eval e X.env) :: starEach [] X.env := by rfl) (hpl : NA X [] cpos := by rfl) : PE X (.Call (.Attribute o "extend" apos) [e] [] cpos) (tM C (mExt ma mb)) :=
  s_ext (pe_bm PySem.F.plainAttrs_list PySem.F.slot_list_extend PySem.F.type_list_extend mt_extend (pv_frz ho) (pa_cons (pv_frz he) pa_nil hs) hbase hfew hline hs hpl)
end
/-! ### defs by the head's facts -/
def Df (K : PySem.W.Frag) (mg : Str → Option Value) (x : Str) (st : Stmt) : Prop := ∃ f fd, FunD K x x (defArgs st) (defBody st) (defScope st) [] [] f fd ∧ mg x = some (.ref f)
section
variable {P : Program} {w : World} {K : PySem.W.Frag} {mg : Str → Option Value} {base : Heap} {k : Nat} {x : Str} {N ps : List Str} {sb : Sv} {st : Stmt}
theorem fn_def {f : Addr} {fd : FuncData} (F : FunD K x x (defArgs st) (defBody st) (defScope st) [] [] f fd) (S : FnScope N ps (defScope st))
    (body : ∀ (cdv : Value) (f : Addr) (A : Around) (outer : List Env) (s : Shared) (H : Hp) (E : XK), Bd k (cxOf (L2.CX P w) P w K mg base N x (defScope st) f cdv A outer s H E) (Cn.ofE ⟨K, w⟩ mg E) →
      PSs (cxOf (L2.CX P w) P w K mg base N x (defScope st) f cdv A outer s H E) (defBody st) (tS (Cn.ofE ⟨K, w⟩ mg E) sb)) : FnC P w K mg base (k + 1) f fd ps (bodyF N.length ps.length sb) := by
  obtain ⟨oc, od, dV, kV, doc, pm, an, cdv, ct, osl, rfl, lk, hcd, hD, hK⟩ := F.ex
  rcases hD with ⟨_, rfl⟩ | ⟨e, _⟩
  · exact fn_of (st := st) ⟨⟨oc, od, kV, doc, pm, an, cdv, ct, osl, rfl, lk, hcd⟩, F.kp⟩ S fun cdv A outer s H E B => body cdv f A outer s H E B
  · exact absurd rfl e
theorem kn_def (D : Df K mg x st) (S : FnScope N ps (defScope st))
    (hb : ∀ (kV doc pm : Value) (an : Option Addr) (cdv ct : Value) (us : List Value), us.length = ps.length → bindArgs (PySem.W.fnOf x x (defArgs st) (defBody st) (defScope st) .none kV doc pm an cdv ct) ⟨us, []⟩ = pure (ps.zip us))
    (body : ∀ (cdv : Value) (f : Addr) (A : Around) (outer : List Env) (s : Shared) (H : Hp) (E : XK), Bd k (cxOf (L2.CX P w) P w K mg base N x (defScope st) f cdv A outer s H E) (Cn.ofE ⟨K, w⟩ mg E) →
      PSs (cxOf (L2.CX P w) P w K mg base N x (defScope st) f cdv A outer s H E) (defBody st) (tS (Cn.ofE ⟨K, w⟩ mg E) sb)) : Kn P w K mg base x (k + 1) (bodyF N.length ps.length sb) := by
  obtain ⟨f, fd, F, hm⟩ := D
  exact ⟨f, fd, ps, hm, F.kp, F.bindsN hb, fn_def F S body⟩
end
section
open PySem.W PyProof.Rows
theorem law_walkE {l : OpenLaw} {n k : Nat} {q : Program} {loose : List Str} {XP : (Str → Option Value) → Heap → Prop} {YP : World → Heap → Prop} {d : DefRec} {x : Str} {sem : Fs}
    (hn : l.most = some n) (hn2 : n ≤ sizeLine) (hdf : d.params.defaults = []) (hr : Rm k callerA)
    (F : ∀ (w : World) (mg : Str → Option Value) (fa : Addr) (h : Heap), YP w h → h.Ns mainGlobals mg → mg d.name = some (.ref fa) →
      ∃ (K : Frag) (fd : FuncData), K.In h ∧ (∀ (s : Shared) (u : Value), BindsTo s fd ⟨[u], []⟩ [(x, u)]) ∧ ∀ base : Heap, K.In base → base.Ns mainGlobals mg → FnC l.prog w K mg base k fa fd [x] sem)
    (hsem : ∀ ns : List Int, ns.length ≤ n → ∃ st, sem [.s ns] [heapC []] = .ok (.d (.bool true)) st) : WalkO q loose XP YP l.row.toRowW d [] (fun f vs => PySem.call f vs) := by
  refine Att.attach_call hn hdf fun w s₀ s₁ mg mb fa o pm cd doc a vs ns G Y ho hd hcd hmg hobj hints hlen hg => ?_
  obtain ⟨K, fd, KX, hb, hF⟩ := F w mg fa _ Y G.T.g hmg
  exact law_any KX G.T.g G.T.b G.T.builtins G.T.nolimit hg hobj hints (Nat.le_trans hlen hn2) hr hF hb (hsem ns hlen)
end
end Cp
/-! Cq: texts times ints, join, enumerate over lists and tuples. -/
namespace Cp
open PySem L2 PySem.Spec
section
variable {X : Cx} {C : Cn} {k j : Nat} {x : Str} {p pos apos cpos : Pos} {e a b c : Expr} {es : List Expr} {m ma mb mc : Ev} {mas : En → Sto → Res (List Vl)} {Q : VK} {μ : Mu} {F H : Hp} {st : Sto}
/-! ### a text times an int -/
def rMulS : R2 := fun x y H Q => ∃ i k, x = .str i ∧ y = .int k ∧ -(2 ^ 63) ≤ k ∧ k < 2 ^ 63 ∧ i.length * k.toNat ≤ sizeLine ∧ Q (.str (Txt.mul i k)) H
theorem mulOk_of {i : Str} {k : Int} (h1 : -(2 ^ 63) ≤ k) (h2 : k < 2 ^ 63) (hz : i.length * k.toNat ≤ sizeLine) : MulOk i k := by
  have hs : sizeLine = 16777216 := rfl
  refine ⟨?_, fun h3 _ => ?_, fun _ _ => ?_⟩
  · rw [Bool.or_eq_false_iff]; exact ⟨decide_eq_false (by omega), decide_eq_false (by omega)⟩
  · have hk : (k.toNat : Int) = k := Int.toNat_of_nonneg (by omega)
    have h4 : (i.length : Int) * k ≤ 16777216 := by
      rw [hs] at hz
      have h5 : ((i.length * k.toNat : Nat) : Int) ≤ ((16777216 : Nat) : Int) := Int.ofNat_le.mpr hz
      rw [Int.natCast_mul, hk] at h5
      exact h5
    have := Int.le_ediv_of_mul_le (a := (i.length : Int)) (b := 2 ^ 63 - 1) (c := k) (by omega) (by omega)
    omega
  · unfold Builtin.Str.tooLong
    exact decide_eq_false (by omega)
theorem op_mulS : OpR X (binaryOp .Mult) rMulS := by
  intro pins s σ H x y v u Q I rx ry h
  obtain ⟨i, k, rfl, rfl, h1, h2, hz, q⟩ := h
  obtain ⟨t, rfl⟩ := rx
  obtain ⟨t', rfl⟩ := ry
  exact SB.mul (mulOk_of h1 h2 hz) fun t'' tk => ⟨.str (Txt.mul i k), H, I.tok _, ⟨_, rfl⟩, q⟩
def fMulS : PyData → PyData → Option Rv
  | .str i, .int k => if -(2 ^ 63) ≤ k ∧ k < 2 ^ 63 ∧ i.length * k.toNat ≤ sizeLine then some (.d (.str (Txt.mul i k))) else none
  | _, _ => none
theorem fMulS_ok : BinOk C rMulS fMulS := by
  intro a b res v u μ F H st Q s va vb e h
  unfold fMulS at e
  split at e
  · split at e
    · rename_i hh
      cases e
      exact ⟨_, _, va.str, vb.int, hh.1, hh.2.1, hh.2.2, fin_d s h (.str _)⟩
    · cases e
  · cases e
def fMulA (a b : PyData) : Option Rv := match fMul a b with
  | some z => some z
  | none => fMulS a b
theorem s_mulA (ha : PE X a (tM C ma)) (hb : PE X b (tM C mb)) : PE X (.BinOp a .Mult b pos) (tM C (mBin fMulA ma mb)) := s_bin ((op_mulW.or (op_rep.or (op_repT.or op_repT2))).or op_mulS) (fMul_ok.or fMulS_ok) ha hb
/-! ### join -/
def strsD : List PyData → Option (List Str)
  | [] => some []
  | .str x :: r => match strsD r with
    | some xs => some (x :: xs)
    | none => none
  | _ :: _ => none
def fJoin (a b : PyData) : Option Rv := match a, itemsD b with
  | .str z, some ds => match strsD ds with
    | some ys => if (ys.map (·.length)).sum + ys.length * z.length ≤ 16777216 then some (.d (.str (Txt.join z ys))) else none
    | none => none
  | _, _ => none
def mJoin (ma mb : Ev) : Ev := fun ρ st => (mV ma ρ st).bind fun x s1 => match x with
  | .d (.str z) => (mV mb ρ s1).bind fun y s2 => view2 fJoin s2 x y
  | _ => .no
end
/-! ### enumerate of a tuple -/
section
open PyProof.Rows
theorem meets_enumerate_newT (l : Addr) (items : Array Value) (n : Nat) (dct : Option Addr) (sl : Array (Option Value)) :
    Meets (Builtin.«enumerate.__new__» ⟨[.type "enumerate", .ref l], []⟩) (fun _ R s => s.heap.get? l = some { cls := .type "tuple", dict := dct, data := .seq items n, slots := sl } ∧
      R (.ok (.ret (.ref (s.heap.push { cls := .type "tuple_iterator", data := .fields #[.ref l, .int 0 0] }).objs.size)))
        { s with heap := (s.heap.push { cls := .type "tuple_iterator", data := .fields #[.ref l, .int 0 0] }).push { cls := .type "enumerate", data := .fields #[.none, .bool false, .ref s.heap.objs.size, rawInt 0, .none, .none] } }) :=
  .of_wp fun prog w A R s h => by
    obtain ⟨hp, g, d, tk, os⟩ := s; obtain ⟨hl, h⟩ := h
    have hsub := sub_enumerate
    have hL : Heap.IsTuple (Shared.heap ⟨hp, g, d, tk, os⟩) l items := ⟨_, hl, rfl, n, rfl⟩
    wp_walk using AutoSeq1.wpAny_loadPart' hl
    refine wpAny_stack_any fun st => wpAny_pure ?_
    split
    · rename_i c _ _ _ _ _
      cases (c == Value.type "enumerate")
      · wp_walk using AutoSeq1.wpAny_loadPart' hl, wpAny_pyIter_tuple hL
        exact ⟨_, rfl, h⟩
      · wp_walk using AutoSeq1.wpAny_loadPart' hl, wpAny_pyIter_tuple hL
        exact ⟨_, rfl, h⟩
    · wp_walk using AutoSeq1.wpAny_loadPart' hl, wpAny_pyIter_tuple hL
      exact ⟨_, rfl, h⟩
variable {prog : Program} {w : World} {A : Around} {E : Value → Shared → Prop} {s : Shared}
theorem call_enumerate_tup {l : Addr} {items : Array Value} {Q : Value → Shared → Prop} (hL : s.heap.IsTuple l items)
    (h : ∀ h', IsEnum h' (s.heap.objs.size + 1) s.heap.objs.size 0 .none → h'.IsTupleIter s.heap.objs.size l 0 → h'.objs.size = s.heap.objs.size + 2 →
      (∀ b o, s.heap.get? b = some o → h'.get? b = some o) → Q (.ref (s.heap.objs.size + 1)) { s with heap := h' }) :
    wpAny (model prog w) A (call (.type "enumerate") [.ref l]) Q E s := by
  obtain ⟨⟨c, dct, dt, sl⟩, hl, hc, n, hd⟩ := hL
  replace hc : c = .type "tuple" := hc
  replace hd : dt = .seq items n := hd
  subst hc hd
  refine callType_new F.called_enumerate (by decide) (F.typeCall_enumerate_1 _) (F.newCall_enumerate_1 _) (fun obj => F.args_object_init_2 obj _) F.entry_enumerate_new
    (meets_enumerate_newT l items n dct sl) ⟨hl, ?_⟩
  have hz : (s.heap.push { cls := .type "tuple_iterator", data := .fields #[.ref l, .int 0 0] }).objs.size = s.heap.objs.size + 1 := Heap.size_push ..
  show _ ∧ _
  rw [hz]
  have he : IsEnum ((s.heap.push { cls := .type "tuple_iterator", data := .fields #[.ref l, .int 0 0] }).push
      { cls := .type "enumerate", data := .fields #[.none, .bool false, .ref s.heap.objs.size, rawInt 0, .none, .none] }) (s.heap.objs.size + 1) s.heap.objs.size 0 .none := by
    have := Heap.get?_push_size (s.heap.push { cls := .type "tuple_iterator", data := .fields #[.ref l, .int 0 0] })
      (o := { cls := .type "enumerate", data := .fields #[.none, .bool false, .ref s.heap.objs.size, rawInt 0, .none, .none] }) rfl
    rw [hz] at this; exact this
  refine ⟨⟨_, he, rfl⟩, h _ he ⟨_, Heap.get?_push_of_some _ (Heap.get?_push_size _ rfl), rfl, rfl⟩ (by rw [Heap.size_push, hz]) fun b o x => Heap.get?_push_of_some _ (Heap.get?_push_of_some _ x)⟩
/-- the tuple at a, each item in a new pair -/
def IteT (K : PySem.W.Frag) (a : Addr) : It :=
  ⟨fun i H => ∃ (xs : List V) (x : V), SqT K H a xs ∧ xs[i]? = some x, fun i H v H' => ∃ T x, v = .ref T ∧ H T = none ∧ H' = upd H T (.tup [.int (i : Nat), x]) ∧ ∀ xs, SqT K H a xs → xs[i]? = some x, fun i H => ∃ xs : List V, SqT K H a xs ∧ xs.length ≤ i⟩
theorem turn_enumT {P : Program} {w : World} {K : PySem.W.Frag} {elts : List Expr} {kk : Nat} {tpos : Pos} (a e it : Addr) (hai : a ≠ it) (hae : a ≠ e) :
    Turn P w K (.Tuple elts kk tpos) (IteT K a) [e, it] e (fun i h => (∃ old, IsEnum h e it ((i : Nat) : Int) old) ∧ h.IsTupleIter it a i ∧ e ≠ it) where
  mem := by simp
  obj := fun i h st b hb => by
    obtain ⟨⟨old, he⟩, ⟨o, ho, hc, hd⟩, _⟩ := st
    have e' : b = e ∨ b = it := by simpa using hb
    rcases e' with z | z
    · rw [z]; exact ⟨_, he, fun v q => nomatch q⟩
    · rw [z]; exact ⟨o, ho, fun v q => by rw [hd] at q; cases q⟩
  keep := fun i h h' st k => let ⟨⟨old, he⟩, hi, hne⟩ := st; ⟨⟨old, k e (by simp) _ he⟩, hi.at fun o q => k it (by simp) o q, hne⟩
  item := by
    intro X hP hw hK hc i pins s σ H E I hf st hg
    subst hP hw hK
    obtain ⟨⟨old, he⟩, hit, hne⟩ := st
    obtain ⟨xs, x, hq, hx⟩ := hg
    obtain ⟨its, rv, p, hz⟩ := I.tuple hq
    obtain ⟨u, hu, ru⟩ := rv.get hx
    have hel : e < s.heap.objs.size := Heap.lt_size he
    have hil : it < s.heap.objs.size := by obtain ⟨_, q, _⟩ := hit; exact Heap.lt_size q
    have hlt : i < its.toArray.size := by
      obtain ⟨z, _⟩ := List.getElem?_eq_some_iff.mp hu
      rw [List.size_toArray]; exact z
    have pt : s.heap.IsTuple a its.toArray := p
    refine wpAny_pyNext_enum_itemD (Draws.tuple (prog := X.prog) (w := X.w) (A := X.A.in1) (I.ok.hd hc) it a hai its.toArray) he ⟨hit, pt⟩ hlt hne (by simp [hne, Ne.symm hae]) fun x2 h' tk hp ho hit' hT hsz hk => ?_
    obtain rfl : u = x2 := by
      have : its.toArray[i]? = some u := by simpa using hu
      rw [this] at hp; cases hp; rfl
    refine ⟨_, rfl, wpAny_letOwnedTupleGo_enum (s := { s with heap := h', toks := tk + 1 }) ho fun h'' he' sb => ?_⟩
    have hT2 : h''.get? s.heap.objs.size = some { cls := .type "tuple", data := .seq #[.int i tk, u] } := (sb.2 _ (Nat.ne_of_gt hel)).trans hT
    have new : ObjOk X.prog X.w (upd H s.heap.objs.size (.tup [.int (i : Nat), x])) h'' s.heap.objs.size (.tup [.int (i : Nat), x]) :=
      ⟨by show 2 ≤ sizeLine; decide, [.int i tk, u], .cons ⟨_, rfl⟩ (.cons ru .nil), ⟨_, hT2, rfl, _, rfl⟩⟩
    have I1 : Inv X pins σ (upd H s.heap.objs.size (.tup [.int (i : Nat), x])) { s with heap := h'', toks := tk + 1 } :=
      I.turnedNew (ch := [e, it]) (fun b ob hb q => (sb.2 b (fun z => hb (by simp [z]))).trans (hk b ob (fun z => hb (by simp [z])) (fun z => hb (by simp [z])) q)) hf (Nat.le_refl _) new
    refine ⟨.ref s.heap.objs.size, _, I1, rfl, ⟨_, x, rfl, I.hok.fresh (Nat.le_refl _), rfl, fun ys hy => by rw [I.tuple_inj hy hq]; exact hx⟩, ⟨⟨u, ?_⟩, hit'.1.at fun o q => (sb.2 it (Ne.symm hne)).trans q, hne⟩, fun b hb => ?_⟩
    · have e1 : ((i + 1 : Nat) : Int) = (i : Int) + 1 := by omega
      rw [e1]; exact he'
    · have hb' : b < s.heap.objs.size := by
        have e' : b = e ∨ b = it := by simpa using hb
        rcases e' with z | z
        · rw [z]; exact hel
        · rw [z]; exact hil
      rw [upd_ne (Nat.ne_of_lt hb')]
      exact (hf b hb).1
  done := by
    intro X hP hw hK hc i pins s σ H E I hf st hg
    subst hP hw hK
    obtain ⟨⟨old, he⟩, hit, hne⟩ := st
    obtain ⟨xs, hq, hx⟩ := hg
    obtain ⟨its, rv, p, hz⟩ := I.tuple hq
    obtain ⟨f0, f1, f2, f3, f4, f5⟩ := hf it (by simp)
    have hl := rv.length
    have pt : s.heap.IsTuple a its.toArray := p
    have D := Draws.tuple (prog := X.prog) (w := X.w) (A := X.A.in1) (I.ok.hd hc) it a hai its.toArray
    have hT : s.TypeIs (.ref e) "enumerate" := ⟨_, he, rfl⟩
    unfold pyNext
    refine wpAny_bind (wpAny_attempt (wpAny_callSpecial?_slot (name := Str.ofString "__next__") hT F.slot_enumerate_next
      (wpAny_call_entry F.slot_enumerate_next hT F.entry_enumerate_next ?_ (F.args_enumerate_next_1 _))))
    show wpAny _ _ (field (.ref e) 2 >>= _) _ _ _
    refine wpAny_bind (wpAny_field he rfl (x := .ref it) rfl ?_)
    refine wpAny_bind (wpAny_nextOf_tuple_end (I.ok.hd hc) hit pt (by simp; omega) fun h' x he' hx' => ?_)
    obtain ⟨o, ho, hcc⟩ := hx'
    refine wpAny_bind (wpAny_isInstance (T := "StopIteration") (b := true) ⟨o, ho, hcc⟩ isSubtype_stop ?_)
    exact wpAny_pure ⟨rfl, I.turned (t' := s.toks) (fun b o hb q => he' b o hb q) f0 f1 f3 f4 f5⟩
  self := fun A i s Q E st h => let ⟨⟨_, he⟩, _⟩ := st; wpAny_pyIter_enum he h
def iEnumA (K : PySem.W.Frag) (ta : TA) : TI := fun σ H R => ta σ H fun vs H1 => ∃ a xs, vs = [.ref a] ∧ ((SqL K H1 a xs ∧ R (Ite K a) H1) ∨ (SqT K H1 a xs ∧ R (IteT K a) H1))
theorem pi_enumA {X : Cx} {e : Expr} {ta : TA} {p pos tpos : Pos} {elts : List Expr} {kk : Nat} (hg : Gl X "enumerate") (hm : X.mg "enumerate" = none) (ha : PA X [e] ta) (hs : starEach [e] X.env = [(false, eval e X.env)] := by rfl) :
    PI X (.Tuple elts kk tpos) (.Call (.Name "enumerate" p) [e] [] pos) (iEnumA X.K ta) := by
  refine ⟨fun pins s σ H R I h => ?_⟩
  refine Call_ (ld_blt I hg hm boot_enumerate (PyProof.Rows.callWith_type1 (thn (ha.run pos pins s σ H _ I h) fun us s1 ⟨vs, H1, I1, r1, q1⟩ => ?_) hs rfl))
  obtain ⟨a, xs, ex, q⟩ := q1
  subst ex
  cases r1 with
  | cons r rr =>
    cases rr
    cases r
    have fr : ∀ b, b ∈ [s1.heap.objs.size + 1, s1.heap.objs.size] → FpOk X pins H1 b := fun b hb => by
      have e' : b = s1.heap.objs.size + 1 ∨ b = s1.heap.objs.size := by simpa using hb
      have hle : s1.heap.objs.size ≤ b := by
        rcases e' with z | z
        · rw [z]; exact Nat.le_add_right _ _
        · rw [z]; exact Nat.le_refl _
      exact I1.fpOk hle (I1.hok.fresh hle)
    rcases q with ⟨hq, q⟩ | ⟨hq, q⟩
    · obtain ⟨its, rv, p', hz⟩ := I1.list hq
      refine call_enumerate_list p'.isList fun h' he hit hsz hk => wpAny_pyIter_enum he ?_
      have I2 : Inv X pins σ H1 { s1 with heap := h' } := I1.kept (t' := s1.toks) hk
      exact ⟨s1.heap.objs.size + 1, [s1.heap.objs.size + 1, s1.heap.objs.size], _, _, H1, rfl, I2, turn_enum a (s1.heap.objs.size + 1) s1.heap.objs.size, ⟨⟨.none, he⟩, hit, Nat.succ_ne_self _⟩, fr, q⟩
    · obtain ⟨its, rv, p', hz⟩ := I1.tuple hq
      have pt : s1.heap.IsTuple a its.toArray := p'
      have hal : a < s1.heap.objs.size := by obtain ⟨o, ho, _⟩ := id pt; exact Heap.lt_size ho
      refine call_enumerate_tup pt fun h' he hit hsz hk => wpAny_pyIter_enum he ?_
      have I2 : Inv X pins σ H1 { s1 with heap := h' } := I1.kept (t' := s1.toks) hk
      exact ⟨s1.heap.objs.size + 1, [s1.heap.objs.size + 1, s1.heap.objs.size], _, _, H1, rfl, I2, turn_enumT a (s1.heap.objs.size + 1) s1.heap.objs.size (Nat.ne_of_lt hal) (Nat.ne_of_lt (Nat.lt_succ_of_lt hal)), ⟨⟨.none, he⟩, hit, Nat.succ_ne_self _⟩, fr, q⟩
end
section
variable {X : Cx} {C : Cn} {p pos tpos : Pos} {e a b : Expr} {μ : Mu} {F H : Hp} {st : Sto} {mas : En → Sto → Res (List Vl)} {elts : List Expr} {kk : Nat}
def enumF : Nat → List PyData → List PyData
  | _, [] => []
  | i, d :: r => .tuple [.int (i : Nat), d] :: enumF (i + 1) r
theorem enumF_get : ∀ (ds : List PyData) (j i : Nat), (enumF j ds)[i]? = ds[i]?.map fun d => .tuple [.int ((j + i : Nat) : Int), d]
  | [], _, _ => rfl
  | d :: r, j, 0 => rfl
  | d :: r, j, i + 1 => by
    show (enumF (j + 1) r)[i]? = r[i]?.map _
    rw [enumF_get r (j + 1) i]
    congr 1
    funext d
    have : j + 1 + i = j + (i + 1) := by omega
    rw [this]
theorem enumF_len : ∀ (ds : List PyData) (j : Nat), (enumF j ds).length = ds.length
  | [], _ => rfl
  | d :: r, j => by show (enumF (j + 1) r).length + 1 = r.length + 1; rw [enumF_len]
/-- the source of enumerate -/
def srcEn (s : Sto) (xs : List Vl) : Option Src := match xs with
  | [.c k] => match s[k]? with
    | some (.l xs) => some (enumF 0 xs, some (k, xs))
    | _ => none
  | [.d (.list xs)] => some (enumF 0 xs, none)
  | [.d (.tuple xs)] => some (enumF 0 xs, none)
  | _ => none
def iEn (ma : En → Sto → Res (List Vl)) : En → Sto → Res Src := fun ρ st => (ma ρ st).bind fun xs s => okO (srcEn s xs) s
theorem SR.tupled {K : Kw} (r1 : SR K μ F H st) {T : Addr} {x y : V} {d d' : PyData} (hT : H T = none) (h : Dq K F x d) (h' : Dq K F y d') :
    ∃ F2, Ext μ F H μ F2 (upd H T (.tup [x, y])) ∧ SR K μ F2 (upd H T (.tup [x, y])) st ∧ Dq K F2 (.ref T) (.tuple [d, d']) := by
  obtain ⟨s1, x1⟩ := r1.newly (o := .tup [x, y]) hT
  have hd := r1.dead hT
  obtain ⟨s2, x2, sm⟩ := s1.freeze x1 r1.sub hT upd_same hd.1 hd.2
  exact ⟨_, x2, s2, .tup (.inl upd_same) (.cons (h.same sm) (.cons (h'.same sm) .nil))⟩
theorem wk_enum {K : PySem.W.Frag} {q : Addr} {ds : List PyData} {g : Option (Nat × List PyData)} (hx : ∀ μ1 F1 H1 st1, Sx μ F μ1 F1 → SR C.K μ1 F1 H1 st1 → Grd g (enumF 0 ds) st1 → ∃ ys, H1 q = some (.lst ys) ∧ DqAll C.K F1 ys ds) : Wk C.K (Ite K q) (enumF 0 ds) g μ F := by
  refine ⟨fun i μ1 F1 H1 st1 d x1 r1 k1 e => ?_, fun μ1 F1 H1 st1 x1 r1 k1 => ?_⟩
  · obtain ⟨ys, g1, g2⟩ := hx μ1 F1 H1 st1 x1 r1 k1
    rw [enumF_get] at e
    obtain ⟨d', e', rfl⟩ := Option.map_eq_some_iff.mp e
    obtain ⟨v, g3, g4⟩ := g2.get e'
    refine ⟨⟨ys, v, SqL.of g1, g3⟩, fun x H2 ⟨T, x', e1, e2, e3, e4⟩ => ?_⟩
    subst e1 e3
    have := e4 ys (SqL.of g1)
    rw [g3] at this
    cases this
    rw [Nat.zero_add]
    exact r1.tupled e2 (.int _) g4
  · obtain ⟨ys, g1, g2⟩ := hx μ1 F1 H1 st1 x1 r1 k1
    exact ⟨ys, SqL.of g1, by rw [enumF_len]; exact Nat.le_of_eq g2.length⟩
theorem wk_enumT {K : PySem.W.Frag} {xs : List V} {q : Addr} {ds : List PyData} {g : Option (Nat × List PyData)} (h1 : Rd F q (.tup xs)) (h2 : DqAll C.K F xs ds) : Wk C.K (IteT K q) (enumF 0 ds) g μ F := by
  refine ⟨fun i μ1 F1 H1 st1 d x1 r1 k1 e => ?_, fun μ1 F1 H1 st1 x1 r1 k1 => ?_⟩
  · have g1 : SqT K H1 q xs := SqT.rd r1.sub (same_rd x1.same h1)
    rw [enumF_get] at e
    obtain ⟨d', e', rfl⟩ := Option.map_eq_some_iff.mp e
    obtain ⟨v, g3, g4⟩ := (h2.same x1.same).get e'
    refine ⟨⟨xs, v, g1, g3⟩, fun x H2 ⟨T, x', e1, e2, e3, e4⟩ => ?_⟩
    subst e1 e3
    have := e4 xs (g1)
    rw [g3] at this
    cases this
    rw [Nat.zero_add]
    exact r1.tupled e2 (.int _) g4
  · exact ⟨xs, SqT.rd r1.sub (same_rd x1.same h1), by rw [enumF_len]; exact Nat.le_of_eq h2.length⟩
theorem i_enum (hg : Gl X "enumerate") (hm : X.mg "enumerate" = none) (ha : PA X [e] (tAs C mas)) (hs : starEach [e] X.env = [(false, eval e X.env)] := by rfl) : PI X (.Tuple elts kk tpos) (.Call (.Name "enumerate" p) [e] [] pos) (tI C (iEn mas)) :=
  (pi_enumA hg hm ha hs).imp fun σ H R ⟨ρ, st, μ, F, h1, h2, h3⟩ => ⟨ρ, st, μ, F, h1, h2, Post.bindA gW_lat h3 fun x s v μ1 F1 H1 x1 r1 k1 h4 => by
    cases q0 : srcEn s x with
    | none => simp only [q0, okO] at h4; exact False.elim h4
    | some sr =>
      simp only [q0, okO] at h4
      cases x with
      | nil => cases q0
      | cons y r =>
        cases r with
        | cons _ _ => cases y with
          | d z => cases z <;> cases q0
          | _ => cases q0
        | nil =>
          obtain ⟨v, rfl, k2⟩ := k1.one
          cases y with
          | s _ => cases q0
          | o _ => cases q0
          | c k =>
            cases q : s[k]? with
            | none => simp only [srcEn, q] at q0; cases q0
            | some cl =>
              cases cl with
              | m _ => simp only [srcEn, q] at q0; cases q0
              | l xs =>
                simp only [srcEn, q] at q0
                cases q0
                obtain ⟨pp, hp, rfl⟩ := k2
                obtain ⟨p', o', g1, g2, ys, rfl, g3⟩ := r1.cell k _ q
                rw [hp] at g1; cases g1
                refine ⟨pp, ys, rfl, .inl ⟨SqL.of g2, h4 _ μ1 F1 H1 Ext.refl r1 (wk_enum fun μ2 F2 H2 st2 x2 r2 k2 => ?_)⟩⟩
                obtain ⟨p2, o2, e1, e2, zs, rfl, e3⟩ := r2.cell k _ k2
                rw [x2.get hp] at e1; cases e1
                exact ⟨zs, e2, e3⟩
          | d z =>
            cases z with
            | list xs =>
              cases q0
              cases (show Dq C.K F1 v (.list xs) from k2) with
              | lst q1 q2 => exact ⟨_, _, rfl, .inl ⟨SqL.of (r1.sub _ _ q1), h4 _ μ1 F1 H1 Ext.refl r1 (wk_enum fun μ2 F2 H2 st2 x2 r2 k2 => ⟨_, r2.sub _ _ (x2.same _ _ q1), q2.same x2.same⟩)⟩⟩
            | tuple xs =>
              cases q0
              cases (show Dq C.K F1 v (.tuple xs) from k2) with
              | tup q1 q2 => exact ⟨_, _, rfl, .inr ⟨SqT.rd r1.sub q1, h4 _ μ1 F1 H1 Ext.refl r1 (wk_enumT q1 q2)⟩⟩
            | _ => cases q0⟩
end
end Cp
/-! Cr: constants of the module; sorted(set(ints)). -/
namespace Cp
open PySem L2 PySem.Spec
end Cp
/-! Cm: what a meaning comes to, rule by rule (weakest preconditions), for the plain laws. -/
namespace Cp
open PySem L2
def WVe {α : Type} (E : Er → Sto → Prop) (r : Res α) (P : α → Sto → Prop) : Prop := match r with
  | .ok a s => P a s
  | .er e s => E e s
  | .no => False
def WO {α : Type} (o : Option α) (P : α → Prop) : Prop := match o with
  | some a => P a
  | none => False
def WSe (E : Er → Sto → Prop) (r : RS) (N B C : En → Sto → Prop) (R : Rv → Sto → Prop) : Prop := match r with
  | .nx ρ s => N ρ s
  | .bk ρ s => B ρ s
  | .ct ρ s => C ρ s
  | .rt r s => R r s
  | .er e s => E e s
  | .no => False
abbrev noE : Er → Sto → Prop := fun _ _ => False
/-- no error comes -/
@[simp] theorem noE_take (n : Nat) : (fun (e : Er) (s2 : Sto) => noE e (s2.take n)) = noE := rfl
section
variable {E : Er → Sto → Prop} {α β : Type} {P : α → Sto → Prop} {st : Sto} {ρ : En} {N B C : En → Sto → Prop} {R : Rv → Sto → Prop}
@[simp] theorem WO_some (a : α) (P : α → Prop) : WO (some a) P = P a := rfl
@[simp] theorem WO_none (P : α → Prop) : WO none P = False := rfl
@[simp] theorem WO_ite (c : Prop) [Decidable c] (a : α) (P : α → Prop) : WO (if c then some a else none) P = (c ∧ P a) := by by_cases h : c <;> simp [h]
@[simp] theorem WO_map (f : α → β) (o : Option α) (P : β → Prop) : WO (o.map f) P = WO o fun a => P (f a) := by cases o <;> rfl
@[simp] theorem WV_ok (a : α) : WVe E (.ok a st) P = P a st := rfl
@[simp] theorem WV_no : WVe E (.no : Res α) P = False := rfl
@[simp] theorem WV_bind (r : Res α) (f : α → Sto → Res β) (P : β → Sto → Prop) : WVe E (r.bind f) P = WVe E r fun a s => WVe E (f a s) P := by cases r <;> rfl
theorem WV_mono {r : Res α} {P Q : α → Sto → Prop} (h : WVe E r P) (w : ∀ a s, P a s → Q a s) : WVe E r Q := by cases r with
  | ok a s => exact w a s h
  | er e s => exact h
  | no => exact h
theorem WV_ex {r : Res α} (h : WVe noE r P) : ∃ a s, r = .ok a s ∧ P a s := by cases r with
  | ok a s => exact ⟨a, s, rfl, h⟩
  | er e s => exact False.elim h
  | no => exact False.elim h
@[simp] theorem WV_okO (o : Option α) : WVe E (okO o st) P = WO o fun a => P a st := by cases o <;> rfl
@[simp] theorem WV_okB (o : Option Bool) (P : Bool → Sto → Prop) : WVe E (okB o st) P = WO o fun a => P a st := by cases o <;> rfl
@[simp] theorem WS_toS (r : Res α) (k : α → Sto → RS) : WSe E (r.toS k) N B C R = WVe E r fun a s => WSe E (k a s) N B C R := by cases r <;> rfl
@[simp] theorem WS_nx (s : Sto) : WSe E (.nx ρ s) N B C R = N ρ s := rfl
@[simp] theorem WS_rt (r : Rv) (s : Sto) : WSe E (.rt r s) N B C R = R r s := rfl
@[simp] theorem WS_bk (s : Sto) : WSe E (.bk ρ s) N B C R = B ρ s := rfl
@[simp] theorem WS_ct (s : Sto) : WSe E (.ct ρ s) N B C R = C ρ s := rfl
@[simp] theorem WS_no : WSe E .no N B C R = False := rfl
/-! ### expressions -/
variable {m ma mb : Ev} {mas : En → Sto → Res (List Vl)} {PE : Rv → Sto → Prop} {PV : Vl → Sto → Prop} {PB : Bool → Sto → Prop} {PA : List Vl → Sto → Prop} {ca cb : En → Sto → Res Bool}
@[simp] theorem W_mV : WVe E (mV m ρ st) PV = WVe E (m ρ st) fun r s => PV (frz r) s := by unfold mV; rw [WV_bind]; rfl
/-- a value that nobody writes again -/
def given (r : Rv) (s : Sto) (P : Vl → Sto → Prop) : Prop := match r with
  | .c k => (match s[k]? with
    | some (.l xs) => P (.d (.list xs)) (s.set k gone)
    | _ => False)
  | r => P (frz r) s
@[simp] theorem given_d (c : PyData) (s : Sto) (P : Vl → Sto → Prop) : given (.d c) s P = P (.d c) s := rfl
@[simp] theorem given_n (c : Cl) (s : Sto) (P : Vl → Sto → Prop) : given (.n c) s P = P (frz (.n c)) s := rfl
@[simp] theorem given_c (k : Nat) (s : Sto) (P : Vl → Sto → Prop) : given (.c k) s P = match s[k]? with
    | some (.l xs) => P (.d (.list xs)) (s.set k gone)
    | _ => False := rfl
@[simp] theorem W_mVz : WVe E (mVz m ρ st) PV = WVe E (m ρ st) fun r s => given r s PV := by
  unfold mVz; rw [WV_bind]
  congr 1; funext r s
  cases r with
  | c k =>
    show WVe E (match s[k]? with
      | some (.l xs) => .ok (.d (.list xs)) (s.set k gone)
      | _ => .no) PV = match s[k]? with
      | some (.l xs) => PV (.d (.list xs)) (s.set k gone)
      | _ => False
    cases s[k]? with
    | none => rfl
    | some c => cases c <;> rfl
  | _ => rfl
/-- a value that is kept: a new object becomes a cell -/
def kept (r : Rv) (s : Sto) (P : Vl → Sto → Prop) : Prop := match r with
  | .n c => P (.c s.length) (s ++ [c])
  | r => P (frz r) s
@[simp] theorem kept_n (c : Cl) (s : Sto) (P : Vl → Sto → Prop) : kept (.n c) s P = P (.c s.length) (s ++ [c]) := rfl
@[simp] theorem kept_d (c : PyData) (s : Sto) (P : Vl → Sto → Prop) : kept (.d c) s P = P (.d c) s := rfl
@[simp] theorem kept_c (c : Nat) (s : Sto) (P : Vl → Sto → Prop) : kept (.c c) s P = P (.c c) s := rfl
@[simp] theorem W_mVc : WVe E (mVc m ρ st) PV = WVe E (m ρ st) fun r s => kept r s PV := by
  unfold mVc; rw [WV_bind]
  congr 1; funext r s
  cases r <;> rfl
@[simp] theorem frz_d (x : PyData) : frz (.d x) = .d x := rfl
@[simp] theorem frz_c (x : Nat) : frz (.c x) = .c x := rfl
@[simp] theorem frz_s (x : List Int) : frz (.s x) = .s x := rfl
@[simp] theorem frz_o (x : Ob) : frz (.o x) = .o x := rfl
@[simp] theorem frz_l (x : List PyData) : frz (.n (.l x)) = .d (.list x) := rfl
@[simp] theorem of_d (x : PyData) : Rv.of (.d x) = .d x := rfl
@[simp] theorem of_c (x : Nat) : Rv.of (.c x) = .c x := rfl
@[simp] theorem of_s (x : List Int) : Rv.of (.s x) = .s x := rfl
@[simp] theorem of_o (x : Ob) : Rv.of (.o x) = .o x := rfl
@[simp] theorem frz_of (x : Vl) : frz (Rv.of x) = x := by cases x <;> rfl
@[simp] theorem kept_of (x : Vl) (s : Sto) (P : Vl → Sto → Prop) : kept (Rv.of x) s P = P x s := by cases x <;> rfl
@[simp] theorem view_d (x : PyData) : view st (.d x) = some x := rfl
@[simp] theorem view_c (i : Nat) : view st (.c i) = match st[i]? with
  | some (.l xs) => some (.list xs)
  | some (.m kvs) => if isGone (.m kvs) then none else some (.dict kvs)
  | none => none := rfl
@[simp] theorem W_mK (x : PyData) : WVe E (mK x ρ st) PE = PE (.d x) st := rfl
@[simp] theorem W_mN (i : Nat) : WVe E (mN i ρ st) PE = WO (ρ[i]?) fun o => WO o fun x => PE (Rv.of x) st := by
  unfold mN
  cases h : ρ[i]? with
  | none => rfl
  | some o => cases o <;> rfl
@[simp] theorem W_mBin (f : PyData → PyData → Option Rv) : WVe E (mBin f ma mb ρ st) PE = WVe E (ma ρ st) fun r1 s1 => WVe E (mb ρ s1) fun r2 s2 => WO (view s2 (frz r1)) fun x => WO (view s2 (frz r2)) fun y => WO (f x y) fun r => PE r s2 := by
  unfold mBin; rw [WV_bind, W_mV]
  congr 1; funext r1 s1; rw [WV_bind, W_mV]
  congr 1; funext r2 s2
  unfold view2
  cases view s2 (frz r1) with
  | none => rfl
  | some x => cases view s2 (frz r2) with
    | none => rfl
    | some y => simp only [WO_some]; cases f x y <;> rfl
@[simp] theorem W_mSix : WVe E (mSix ma mb ρ st) PE = WVe E (ma ρ st) fun r1 s1 => WVe E (mb ρ s1) fun r2 s2 => match frz r1, frz r2 with
    | .s ns, .d (.int i) => WO (atI ns i) fun k => PE (.d (.int k)) s2
    | _, _ => False := by
  unfold mSix; rw [WV_bind, W_mV]
  congr 1; funext r1 s1; rw [WV_bind, W_mV]
  congr 1; funext r2 s2
  generalize frz r1 = v1
  generalize frz r2 = v2
  cases v1 with
  | s ns =>
    cases v2 with
    | d y =>
      cases y with
      | int i => dsimp only; cases atI ns i <;> rfl
      | _ => rfl
    | _ => rfl
  | _ => rfl
@[simp] theorem W_mCmp (g : PyData → PyData → Option Bool) : WVe E (mCmp g ma mb ρ st) PB = WVe E (ma ρ st) fun r1 s1 => WVe E (mb ρ s1) fun r2 s2 => WO (cmp2 g s2 (frz r1) (frz r2)) fun k => PB k s2 := by
  unfold mCmp; rw [WV_bind, W_mV]
  congr 1; funext r1 s1; rw [WV_bind, W_mV]
  congr 1; funext r2 s2; rw [WV_okB]
@[simp] theorem W_bV : WVe E (bV ca ρ st) PE = WVe E (ca ρ st) fun k s => PE (.d (.bool k)) s := by unfold bV; rw [WV_bind]; rfl
@[simp] theorem W_mCal (g : Sto → List Vl → Option Rv) : WVe E (mCal g mas ρ st) PE = WVe E (mas ρ st) fun xs s => WO (g s xs) fun r => PE r s := by
  unfold mCal; rw [WV_bind]
  congr 1; funext xs s
  cases g s xs <;> rfl
@[simp] theorem W_aNil : WVe E (aNil ρ st) PA = PA [] st := rfl
@[simp] theorem W_aCons {mv : En → Sto → Res Vl} {mr : En → Sto → Res (List Vl)} : WVe E (aCons mv mr ρ st) PA = WVe E (mv ρ st) fun x s1 => WVe E (mr ρ s1) fun xs s2 => PA (x :: xs) s2 := by
  unfold aCons; rw [WV_bind]
  congr 1; funext x s1; rw [WV_bind]; rfl
@[simp] theorem W_mTup : WVe E (mTup mas ρ st) PE = WVe E (mas ρ st) fun xs s => WO (allD xs) fun ds => ds.length ≤ sizeLine ∧ PE (.d (.tuple ds)) s := by
  unfold mTup; rw [WV_bind]
  congr 1; funext xs s
  cases h : allD xs with
  | none => rfl
  | some ds =>
    simp only [WO_some]
    by_cases hl : ds.length ≤ sizeLine
    · simp [hl]
    · simp [hl]
@[simp] theorem W_mLst : WVe E (mLst mas ρ st) PE = WVe E (mas ρ st) fun xs s => WO (allD xs) fun ds => ds.length ≤ sizeLine ∧ PE (.n (.l ds)) s := by
  unfold mLst; rw [WV_bind]
  congr 1; funext xs s
  cases h : allD xs with
  | none => rfl
  | some ds =>
    simp only [WO_some]
    by_cases hl : ds.length ≤ sizeLine
    · simp [hl]
    · simp [hl]
@[simp] theorem allD_nil : allD [] = some [] := rfl
@[simp] theorem allD_cons (x : PyData) (r : List Vl) : allD (.d x :: r) = (allD r).map (x :: ·) := by
  show (match allD r with | some xs => some (x :: xs) | none => none) = _
  cases allD r <;> rfl
@[simp] theorem W_eIf : WVe E (eIf ca ma mb ρ st) PE = WVe E (ca ρ st) fun k s => if k = true then WVe E (ma ρ s) PE else WVe E (mb ρ s) PE := by
  unfold eIf; rw [WV_bind]
  congr 1; funext k s
  cases k <;> simp
@[simp] theorem W_mNeg : WVe E (mNeg m ρ st) PE = WVe E (m ρ st) fun r s => WO ((view s (frz r)).bind fNeg) fun d => PE (.d d) s := by
  unfold mNeg; rw [WV_bind, W_mV]
  congr 1; funext r s
  cases (view s (frz r)).bind fNeg <;> rfl
@[simp] theorem W_mTru : WVe E (mTru m ρ st) PB = WVe E (m ρ st) fun r s => WO ((view s (frz r)).bind truD) fun k => PB k s := by
  unfold mTru; rw [WV_bind, W_mV]
  congr 1; funext r s; rw [WV_okB]
@[simp] theorem W_bNot : WVe E (bNot ca ρ st) PB = WVe E (ca ρ st) fun k s => PB (!k) s := by unfold bNot; rw [WV_bind]; rfl
@[simp] theorem W_bAnd : WVe E (bAnd ca cb ρ st) PB = WVe E (ca ρ st) fun k s => if k = true then WVe E (cb ρ s) PB else PB false s := by
  unfold bAnd; rw [WV_bind]
  congr 1; funext k s
  cases k <;> simp
@[simp] theorem W_bOr : WVe E (bOr ca cb ρ st) PB = WVe E (ca ρ st) fun k s => if k = true then PB true s else WVe E (cb ρ s) PB := by
  unfold bOr; rw [WV_bind]
  congr 1; funext k s
  cases k <;> simp
@[simp] theorem W_eNot : WVe E (eNot ma ρ st) PE = WVe E (ma ρ st) fun r s => match frz r with
    | .d (.bool k) => PE (.d (.bool !k)) s
    | _ => False := by
  unfold eNot; rw [WV_bind, W_mV]
  congr 1; funext r s
  split <;> simp_all
@[simp] theorem W_eAnd : WVe E (eAnd ma mb ρ st) PE = WVe E (ma ρ st) fun r s => match frz r with
    | .d (.bool true) => WVe E (mb ρ s) PE
    | .d (.bool false) => PE (.d (.bool false)) s
    | _ => False := by
  unfold eAnd; rw [WV_bind, W_mV]
  congr 1; funext r s
  split <;> simp_all
@[simp] theorem W_eOr : WVe E (eOr ma mb ρ st) PE = WVe E (ma ρ st) fun r s => match frz r with
    | .d (.bool true) => PE (.d (.bool true)) s
    | .d (.bool false) => WVe E (mb ρ s) PE
    | _ => False := by
  unfold eOr; rw [WV_bind, W_mV]
  congr 1; funext r s
  split <;> simp_all
@[simp] theorem W_mJoin : WVe E (mJoin ma mb ρ st) PE = WVe E (ma ρ st) fun r1 s1 => match frz r1 with
    | .d (.str z) => WVe E (mb ρ s1) fun r2 s2 => WO (view s2 (frz r2)) fun y => WO (fJoin (.str z) y) fun r => PE r s2
    | _ => False := by
  unfold mJoin; rw [WV_bind, W_mV]
  congr 1; funext r1 s1
  generalize frz r1 = v1
  cases v1 with
  | d y =>
    cases y with
    | str z =>
      dsimp only
      rw [WV_bind, W_mV]
      congr 1; funext r2 s2
      unfold view2
      simp only [view_d]
      cases view s2 (frz r2) with
      | none => rfl
      | some y => simp only [WO_some]; cases fJoin (.str _) y <;> rfl
    | _ => rfl
  | _ => rfl
/-- after a call: the callee's cells are forgotten -/
def back (n : Nat) (r : Rv) (s : Sto) (P : Rv → Sto → Prop) : Prop := match r with
  | .c i => if i < n then P (.c i) (s.take n) else WO s[i]? fun c => isGone c = false ∧ P (.n c) (s.take n)
  | r => P r (s.take n)
@[simp] theorem back_d (n : Nat) (x : PyData) (s : Sto) (P : Rv → Sto → Prop) : back n (.d x) s P = P (.d x) (s.take n) := rfl
@[simp] theorem back_n (n : Nat) (x : Cl) (s : Sto) (P : Rv → Sto → Prop) : back n (.n x) s P = P (.n x) (s.take n) := rfl
@[simp] theorem back_c (n : Nat) (i : Nat) (s : Sto) (P : Rv → Sto → Prop) : back n (.c i) s P = if i < n then P (.c i) (s.take n) else WO s[i]? fun c => isGone c = false ∧ P (.n c) (s.take n) := rfl
@[simp] theorem gone_l (xs : List PyData) : isGone (.l xs) = false := rfl
@[simp] theorem W_mCall (sem : Fs) : WVe E (mCall sem mas ρ st) PE = WVe E (mas ρ st) fun xs s => WVe (fun e s2 => E e (s2.take st.length)) (sem xs s) fun r s' => back st.length r s' PE := by
  unfold mCall; rw [WV_bind]
  congr 1; funext xs s
  cases sem xs s with
  | no => rfl
  | er e s => rfl
  | ok r s =>
    cases r with
    | d x => rfl
    | s x => rfl
    | o x => rfl
    | n x => rfl
    | c i =>
      unfold gcR back
      by_cases h : i < st.length
      · simp [h]
      · cases q : s[i]? with
        | none => simp [h, q]
        | some c => cases z : isGone c <;> simp [h, q, z]
theorem W_body (n k : Nat) (b : Sv) (args : List Vl) : WVe E (bodyF n k b args st) PE = (args.length = k ∧ WSe E (b (args.map some ++ List.replicate (n - args.length) none) st) (fun _ s => PE (.d .none) s) (fun _ _ => False) (fun _ _ => False) PE) := by
  unfold bodyF
  by_cases h : args.length = k
  · simp only [h, if_true, true_and]
    cases b (args.map some ++ List.replicate (n - k) none) st <;> rfl
  · simp [h]
@[simp] theorem W_oNone {PO : Option Int → Sto → Prop} : WVe E (oNone ρ st) PO = PO none st := rfl
@[simp] theorem W_oSome {PO : Option Int → Sto → Prop} : WVe E (oSome m ρ st) PO = WVe E (m ρ st) fun r s => match frz r with
    | .d (.int i) => PO (some i) s
    | _ => False := by
  unfold oSome; rw [WV_bind, W_mV]
  congr 1; funext r s
  generalize frz r = v
  cases v with
  | d y => cases y <;> rfl
  | _ => rfl
@[simp] theorem W_mSl {ml mh : En → Sto → Res (Option Int)} : WVe E (mSl ma ml mh ρ st) PE = WVe E (ma ρ st) fun r s1 => WVe E (ml ρ s1) fun l s2 => WVe E (mh ρ s2) fun h s3 => WO (view s3 (frz r)) fun d => WO (fSl d l h) fun r => PE r s3 := by
  unfold mSl; rw [WV_bind, W_mV]
  congr 1; funext r s1; rw [WV_bind]
  congr 1; funext l s2; rw [WV_bind]
  congr 1; funext h s3
  cases view s3 (frz r) with
  | none => rfl
  | some d => simp only [WO_some]; cases fSl d l h <;> rfl
@[simp] theorem fSl_t (xs : List PyData) (l h : Option Int) : fSl (.tuple xs) l h = some (.d (.tuple (cutD xs l h))) := rfl
@[simp] theorem fSl_l (xs : List PyData) (l h : Option Int) : fSl (.list xs) l h = some (.n (.l (cutD xs l h))) := rfl
/-! ### statements -/
variable {sa sb : Sv}
@[simp] theorem W_sNil : WSe E (sNil ρ st) N B C R = N ρ st := rfl
@[simp] theorem W_sSeq : WSe E (sSeq sa sb ρ st) N B C R = WSe E (sa ρ st) (fun ρ' s => WSe E (sb ρ' s) N B C R) B C R := by
  unfold sSeq
  cases sa ρ st <;> rfl
@[simp] theorem W_sAsg (g : Gm) (mv : En → Sto → Res Vl) : WSe E (sAsg g mv ρ st) N B C R = WVe E (mv ρ st) fun x s => WVe E (g x ρ s) fun ρ' s' => N ρ' s' := by
  unfold sAsg; rw [WS_toS]
  congr 1; funext x s; rw [WS_toS]; rfl
@[simp] theorem W_sRet : WSe E (sRet m ρ st) N B C R = WVe E (m ρ st) R := by unfold sRet; rw [WS_toS]; rfl
@[simp] theorem W_sRetN : WSe E (sRetN ρ st) N B C R = R (.d .none) st := rfl
@[simp] theorem W_sExp : WSe E (sExp m ρ st) N B C R = WVe E (m ρ st) fun _ s => N ρ s := by unfold sExp; rw [WS_toS]; rfl
@[simp] theorem W_sIf : WSe E (sIf ca sa sb ρ st) N B C R = WVe E (ca ρ st) fun k s => if k = true then WSe E (sa ρ s) N B C R else WSe E (sb ρ s) N B C R := by
  unfold sIf; rw [WS_toS]
  congr 1; funext k s
  cases k <;> simp
variable {PR : En → Sto → Prop}
@[simp] theorem W_gNm (i : Nat) (x : Vl) : WVe E (gNm i x ρ st) PR = PR (ρ.set i (some x)) st := rfl
@[simp] theorem W_gTp (n : Nat) (r : Gms) (ds : List PyData) : WVe E (gTp n r (.d (.tuple ds)) ρ st) PR = (ds.length = n ∧ WVe E (r ds ρ st) PR) := by
  unfold gTp
  by_cases h : ds.length = n <;> simp [h]
@[simp] theorem W_gNil : WVe E (gNil9 [] ρ st) PR = PR ρ st := rfl
@[simp] theorem W_gCons (g : Gm) (r : Gms) (d : PyData) (ds : List PyData) : WVe E (gCons9 g r (d :: ds) ρ st) PR = WVe E (g (.d d) ρ st) fun ρ' s => WVe E (r ds ρ' s) PR := by
  show WVe E ((g (.d d) ρ st).bind fun ρ' s => r ds ρ' s) PR = _
  rw [WV_bind]
@[simp] theorem W_gPl (d : PyData) : WVe E (gPl ma mb (.d d) ρ st) PR = WVe E (ma ρ st) fun o s1 => WVe E (mb ρ s1) fun i s2 => match frz o, frz i with
    | .c k, .d (.int j) => (match s2[k]? with
      | some (.l xs) => WO (ixN xs.length j) fun n => PR ρ (s2.set k (.l (xs.set n d)))
      | _ => False)
    | _, _ => False := by
  show WVe E ((mV ma ρ st).bind fun o s1 => (mV mb ρ s1).bind fun i s2 => match o, i with
    | .c k, .d (.int j) => match s2[k]? with
      | some (.l xs) => match ixN xs.length j with
        | some n => .ok ρ (s2.set k (.l (xs.set n d)))
        | none => .no
      | _ => .no
    | _, _ => .no) PR = _
  rw [WV_bind, W_mV]
  congr 1; funext o s1; rw [WV_bind, W_mV]
  congr 1; funext i s2
  generalize frz o = v1
  generalize frz i = v2
  cases v1 with
  | c k =>
    cases v2 with
    | d y =>
      cases y with
      | int j =>
        dsimp only
        cases s2[k]? with
        | none => rfl
        | some c =>
          cases c with
          | m _ => rfl
          | l xs => dsimp only; cases ixN xs.length j <;> rfl
      | _ => rfl
    | _ => rfl
  | _ => rfl
@[simp] theorem W_sPar2 (i j : Nat) : WSe E (sPar [i, j] mas ρ st) N B C R = WVe E (mas ρ st) fun xs s => match xs with
    | [x, y] => N ((ρ.set i (some x)).set j (some y)) s
    | _ => False := by
  unfold sPar; rw [WS_toS]
  congr 1; funext xs s
  match xs with
  | [] => rfl
  | [_] => rfl
  | [_, _] => rfl
  | _ :: _ :: _ :: _ => rfl
@[simp] theorem W_sPar3 (i j l : Nat) : WSe E (sPar [i, j, l] mas ρ st) N B C R = WVe E (mas ρ st) fun xs s => match xs with
    | [x, y, z] => N (((ρ.set i (some x)).set j (some y)).set l (some z)) s
    | _ => False := by
  unfold sPar; rw [WS_toS]
  congr 1; funext xs s
  match xs with
  | [] => rfl
  | [_] => rfl
  | [_, _] => rfl
  | [_, _, _] => rfl
  | _ :: _ :: _ :: _ :: _ => rfl
@[simp] theorem W_mApp : WVe E (mApp ma mb ρ st) PE = WVe E (ma ρ st) fun o s1 => WO (lstAt s1 (frz o)) fun _ => WVe E (mb ρ s1) fun y s2 => match frz o, frz y with
    | .c k, .d d => WO (lstAt s2 (.c k)) fun xs => xs.length < sizeLine ∧ PE (.d .none) (s2.set k (.l (xs ++ [d])))
    | _, _ => False := by
  unfold mApp; rw [WV_bind, W_mV]
  congr 1; funext o s1
  cases h : lstAt s1 (frz o) with
  | none => rfl
  | some zs =>
    simp only [WO_some]
    rw [WV_bind, W_mV]
    congr 1; funext y s2
    cases q1 : frz o with
    | d x => rfl
    | s x => rfl
    | o x => rfl
    | c k =>
      cases q2 : frz y with
      | c x => cases lstAt s2 (.c k) <;> rfl
      | s x => cases lstAt s2 (.c k) <;> rfl
      | o x => cases lstAt s2 (.c k) <;> rfl
      | d d =>
        dsimp only
        cases lstAt s2 (.c k) with
        | none => rfl
        | some xs =>
          simp only [WO_some, fApp]
          by_cases hl : xs.length < sizeLine <;> simp [hl]
@[simp] theorem W_mExt : WVe E (mExt ma mb ρ st) PE = WVe E (ma ρ st) fun o s1 => WO (lstAt s1 (frz o)) fun _ => WVe E (mb ρ s1) fun y s2 => match frz o with
    | .c k => WO (lstAt s2 (.c k)) fun xs => WO (view s2 (frz y)) fun d => WO (fExt xs d) fun zs => PE (.d .none) (s2.set k (.l zs))
    | _ => False := by
  unfold mExt; rw [WV_bind, W_mV]
  congr 1; funext o s1
  cases h : lstAt s1 (frz o) with
  | none => rfl
  | some zs =>
    simp only [WO_some]
    rw [WV_bind, W_mV]
    congr 1; funext y s2
    cases q1 : frz o with
    | d x => rfl
    | s x => rfl
    | o x => rfl
    | c k =>
      dsimp only
      cases lstAt s2 (.c k) with
      | none => rfl
      | some xs =>
        simp only [WO_some]
        cases view s2 (frz y) with
        | none => rfl
        | some d => simp only [WO_some]; cases fExt xs d <;> rfl
@[simp] theorem lstAt_c (k : Nat) : lstAt st (.c k) = match st[k]? with
  | some (.l xs) => some xs
  | _ => none := rfl
/-! ### iterations -/
variable {PI : Src → Sto → Prop}
@[simp] theorem W_iOf : WVe E (iOf m ρ st) PI = WVe E (m ρ st) fun r s => WO (srcOf s (frz r)) fun dg => PI dg s := by
  unfold iOf; rw [WV_bind, W_mV]
  congr 1; funext r s; rw [WV_okO]
@[simp] theorem W_iEn : WVe E (iEn mas ρ st) PI = WVe E (mas ρ st) fun xs s => WO (srcEn s xs) fun dg => PI dg s := by
  unfold iEn; rw [WV_bind]
  congr 1; funext xs s; rw [WV_okO]
@[simp] theorem W_iRg1 : WVe E (iRg1 mas ρ st) PI = WVe E (mas ρ st) fun xs s => WO (oneI xs) fun j => rOk 0 j = true ∧ PI (rngD 0 j, none) s := by
  unfold iRg1; rw [WV_bind]
  congr 1; funext xs s
  cases oneI xs with
  | none => rfl
  | some j =>
    simp only [WO_some]
    by_cases hl : rOk 0 j = true <;> simp [hl]
@[simp] theorem W_iRg2 : WVe E (iRg2 mas ρ st) PI = WVe E (mas ρ st) fun xs s => WO (twoI xs) fun j => rOk j.1 j.2 = true ∧ PI (rngD j.1 j.2, none) s := by
  unfold iRg2; rw [WV_bind]
  congr 1; funext xs s
  cases twoI xs with
  | none => rfl
  | some j =>
    simp only [WO_some]
    by_cases hl : rOk j.1 j.2 = true <;> simp [hl]
/-- a loop, by what stands at each turn -/
theorem forGo_by {g : Gm} {b : Sv} {gd : Option (Nat × List PyData)} {all : List PyData} (I : Nat → En → Sto → Prop) (ds : List PyData) (j : Nat) (h0 : I j ρ st) (hg : ∀ i ρ s, I i ρ s → Grd gd all s)
    (hs : ∀ (i : Nat) (d : PyData) (ρ : En) (s : Sto), ds[i]? = some d → I (j + i) ρ s → WVe E (g (.d d) ρ s) fun ρ1 s1 => WSe E (b ρ1 s1) (I (j + i + 1)) N (I (j + i + 1)) R) (he : ∀ ρ s, I (j + ds.length) ρ s → N ρ s) :
    WSe E (forGo g b gd all ds ρ st) N B C R := by
  induction ds generalizing j ρ st with
  | nil =>
    unfold forGo
    rw [if_pos (hg _ _ _ h0)]
    exact he _ _ h0
  | cons d r ih =>
    unfold forGo
    rw [if_pos (hg _ _ _ h0), WS_toS]
    refine WV_mono (hs 0 d ρ st rfl h0) fun ρ1 s1 h1 => ?_
    have next : ∀ ρ2 s2, I (j + 1) ρ2 s2 → WSe E (forGo g b gd all r ρ2 s2) N B C R := fun ρ2 s2 h2 => ih (j + 1) h2 (fun i d ρ s e h => by
      have := hs (i + 1) d ρ s (by simpa using e) (by rw [show j + (i + 1) = j + 1 + i by omega]; exact h)
      rw [show j + (i + 1) + 1 = j + 1 + i + 1 by omega] at this
      exact this) fun ρ s h => he ρ s (by rw [List.length_cons, show j + (r.length + 1) = j + 1 + r.length by omega]; exact h)
    cases q : b ρ1 s1 with
    | nx ρ2 s2 => rw [q] at h1; exact next _ _ h1
    | ct ρ2 s2 => rw [q] at h1; exact next _ _ h1
    | bk ρ2 s2 => rw [q] at h1; exact h1
    | rt v s2 => rw [q] at h1; exact h1
    | er x s2 => rw [q] at h1; exact h1
    | no => rw [q] at h1; exact h1
@[simp] theorem W_sFor (mi : En → Sto → Res Src) (g : Gm) (b : Sv) : WSe E (sFor mi g b ρ st) N B C R = WVe E (mi ρ st) fun dg s => WSe E (forGo g b dg.2 dg.1 dg.1 ρ s) N B C R := by
  unfold sFor; rw [WS_toS]
theorem lcGo_by {g : Gm} {tt : En → Sto → Res Bool} {te : Ev} {gd : Option (Nat × List PyData)} {all : List PyData} {P : List PyData → Sto → Prop} (I : Nat → Sto → List PyData → Prop) (ds : List PyData) (j : Nat) (acc : List PyData) (h0 : I j st acc) (hg : ∀ i s a, I i s a → Grd gd all s)
    (hs : ∀ (i : Nat) (d : PyData) (s : Sto) (a : List PyData), ds[i]? = some d → I (j + i) s a → WVe noE (g (.d d) ρ s) fun ρ1 s1 => WVe noE (tt ρ1 s1) fun k s2 => if k = true then WVe noE (te ρ1 s2) fun r s3 => ∃ y, frz r = .d y ∧ a.length < sizeLine ∧ I (j + i + 1) s3 (a ++ [y]) else I (j + i + 1) s2 a)
    (he : ∀ s a, I (j + ds.length) s a → P a s) : WVe E (lcGo g tt te gd all ρ ds st acc) P := by
  induction ds generalizing j st acc with
  | nil =>
    unfold lcGo
    rw [if_pos (hg _ _ _ h0)]
    exact he _ _ h0
  | cons d r ih =>
    unfold lcGo
    rw [if_pos (hg _ _ _ h0)]
    have h1 := hs 0 d st acc rfl h0
    have next : ∀ s2 a2, I (j + 1) s2 a2 → WVe E (lcGo g tt te gd all ρ r s2 a2) P := fun s2 a2 h2 => ih (j + 1) a2 h2 (fun i d s a e h => by
      have := hs (i + 1) d s a (by simpa using e) (by rw [show j + (i + 1) = j + 1 + i by omega]; exact h)
      rw [show j + (i + 1) + 1 = j + 1 + i + 1 by omega] at this
      exact this) fun s a h => he s a (by rw [List.length_cons, show j + (r.length + 1) = j + 1 + r.length by omega]; exact h)
    cases q : g (.d d) ρ st with
    | ok ρ1 s1 =>
      rw [q, WV_ok] at h1
      simp only []
      cases q2 : tt ρ1 s1 with
      | ok k s2 =>
        rw [q2, WV_ok] at h1
        cases k with
        | false => simp only [Bool.false_eq_true, if_false] at h1; exact next _ _ h1
        | true =>
          simp only [if_true] at h1
          cases q3 : te ρ1 s2 with
          | ok rr s3 =>
            rw [q3, WV_ok] at h1
            obtain ⟨y, e1, e2, e3⟩ := h1
            have e4 : mV te ρ1 s2 = .ok (.d y) s3 := by unfold mV; rw [q3]; show Res.ok (frz rr) s3 = _; rw [e1]
            simp only [e4, if_pos e2]
            exact next _ _ e3
          | er x s2 => rw [q3] at h1; exact False.elim h1
          | no => rw [q3] at h1; exact False.elim h1
      | er x s2 => rw [q2] at h1; exact False.elim h1
      | no => rw [q2] at h1; exact False.elim h1
    | er x s2 => rw [q] at h1; exact False.elim h1
    | no => rw [q] at h1; exact False.elim h1
@[simp] theorem W_mLc (mi : En → Sto → Res Src) (g : Gm) (tt : En → Sto → Res Bool) (te : Ev) (vs : List Nat) : WVe E (mLc mi g tt te vs ρ st) PE = WVe E (mi ρ st) fun dg s => WVe E (lcGo g tt te dg.2 dg.1 (wipeE ρ vs) dg.1 s []) fun ys s' => PE (.n (.l ys)) s' := by
  unfold mLc; rw [WV_bind]
  congr 1; funext dg s; rw [WV_bind]; rfl
@[simp] theorem W_mLc2 (mi : En → Sto → Res Src) (g : Gm) (tt : En → Sto → Res Bool) (mi1 : En → Sto → Res Src) (g1 : Gm) (tt1 : En → Sto → Res Bool) (te : Ev) (vs vs1 : List Nat) : WVe E (mLc2 mi g tt mi1 g1 tt1 te vs vs1 ρ st) PE = WVe E (mi ρ st) fun dg s => WVe E (lc2Go g tt mi1 g1 tt1 te dg.2 dg.1 vs1 (wipeE ρ vs) dg.1 s []) fun ys s' => PE (.n (.l ys)) s' := by
  unfold mLc2; rw [WV_bind]
  congr 1; funext dg s; rw [WV_bind]; rfl
@[simp] theorem W_ttY : WVe E (ttY ρ st) PB = PB true st := rfl
@[simp] theorem W_mLr (mi : En → Sto → Res (Int × Int)) : WVe E (mLr mi ρ st) PE = WVe E (mi ρ st) fun ij s => (rOk ij.1 ij.2 = true ∧ (ij.2 - ij.1).toNat ≤ 2 ^ 24) ∧ PE (.n (.l (rngD ij.1 ij.2))) s := by
  unfold mLr; rw [WV_bind]
  congr 1; funext ij s
  by_cases h : rOk ij.1 ij.2 = true ∧ (ij.2 - ij.1).toNat ≤ 2 ^ 24
  · rw [if_pos h]; simp [h]
  · rw [if_neg h]; exact propext ⟨fun z => False.elim z, fun z => h z.1⟩
/-! ### operators at ints, texts -/
@[simp] theorem fAdd_i (i j : Int) : fAdd (.int i) (.int j) = some (.d (.int (i + j))) := rfl
@[simp] theorem fAdd_s (i j : Str) : fAdd (.str i) (.str j) = if i.length + j.length ≤ sizeLine then some (.d (.str (i ++ j))) else none := rfl
@[simp] theorem fAdd_t (i j : List PyData) : fAdd (.tuple i) (.tuple j) = if i.length + j.length ≤ sizeLine then some (.d (.tuple (i ++ j))) else none := rfl
@[simp] theorem fAdd_l (i j : List PyData) : fAdd (.list i) (.list j) = if i.length + j.length ≤ sizeLine then some (.n (.l (i ++ j))) else none := rfl
@[simp] theorem fI_i (p : Int → Int → Bool) (g : Int → Int → Int) (i j : Int) : fI p g (.int i) (.int j) = if p i j = true then some (.d (.int (g i j))) else none := rfl
@[simp] theorem fMulA_i (i j : Int) : fMulA (.int i) (.int j) = if pMul i j = true then some (.d (.int (i * j))) else none := by
  show (match (if pMul i j = true then some (Rv.d (.int (i * j))) else none) with | some z => some z | none => none) = _
  by_cases h : pMul i j = true <;> simp [h]
@[simp] theorem fMulA_s (i : Str) (k : Int) : fMulA (.str i) (.int k) = if -(2 ^ 63) ≤ k ∧ k < 2 ^ 63 ∧ i.length * k.toNat ≤ sizeLine then some (.d (.str (Txt.mul i k))) else none := rfl
@[simp] theorem fIx_l (xs : List PyData) (i : Int) : fIx (.list xs) (.int i) = (atI xs i).map .d := rfl
@[simp] theorem fIx_t (xs : List PyData) (i : Int) : fIx (.tuple xs) (.int i) = (atI xs i).map .d := rfl
@[simp] theorem g1_d (f : PyData → Option Rv) (x : PyData) : g1 f st [.d x] = f x := rfl
@[simp] theorem g1_c (f : PyData → Option Rv) (i : Nat) : g1 f st [.c i] = (view st (.c i)).bind f := by
  show (match view st (.c i) with | some d => f d | none => none) = _
  cases view st (.c i) <;> rfl
@[simp] theorem gLen_s (ns : List Int) : gLen st [.s ns] = some (.d (.int ns.length)) := rfl
@[simp] theorem gLen_d (d : PyData) : gLen st [.d d] = fLen d := rfl
@[simp] theorem gLen_c (i : Nat) : gLen st [.c i] = (view st (.c i)).bind fLen := g1_c fLen i
@[simp] theorem fLen_l (xs : List PyData) : fLen (.list xs) = some (.d (.int xs.length)) := rfl
@[simp] theorem fLen_t (xs : List PyData) : fLen (.tuple xs) = some (.d (.int xs.length)) := rfl
@[simp] theorem gII_i (f : Int → Int → Int) (i j : Int) : gII f st [.d (.int i), .d (.int j)] = some (.d (.int (f i j))) := rfl
@[simp] theorem fAbs_i (i : Int) : fAbs (.int i) = some (.d (.int (if i < 0 then -i else i))) := rfl
@[simp] theorem fInt_i (i : Int) : fInt (.int i) = some (.d (.int i)) := rfl
@[simp] theorem fInt_b (i : Bool) : fInt (.bool i) = some (.d (.int (if i then 1 else 0))) := rfl
/-- the text of an int -/
def txI (i : Int) : Str := Str.ofString (toString i)
@[simp] theorem fStr_i (i : Int) : fStr (.int i) = if i.natAbs.log2 < 1920 then some (.d (.str (txI i))) else none := rfl
@[simp] theorem fTuple_l (xs : List PyData) : fTuple (.list xs) = some (.d (.tuple xs)) := rfl
@[simp] theorem fTuple_t (xs : List PyData) : fTuple (.tuple xs) = some (.d (.tuple xs)) := rfl
@[simp] theorem fNeg_i (i : Int) : fNeg (.int i) = some (.int (-i)) := rfl
@[simp] theorem gI_i (p : Int → Int → Bool) (i j : Int) : gI p (.int i) (.int j) = some (p i j) := rfl
@[simp] theorem cmp2_dd (g : PyData → PyData → Option Bool) (a b : PyData) : cmp2 g st (.d a) (.d b) = g a b := rfl
@[simp] theorem oneI_i (j : Int) : oneI [.d (.int j)] = some j := rfl
@[simp] theorem twoI_i (i j : Int) : twoI [.d (.int i), .d (.int j)] = some (i, j) := rfl
@[simp] theorem srcOf_l (xs : List PyData) : srcOf st (.d (.list xs)) = some (xs, none) := rfl
@[simp] theorem srcOf_tp (xs : List PyData) : srcOf st (.o (.tp xs)) = some (xs, none) := rfl
@[simp] theorem srcOf_t (xs : List PyData) : srcOf st (.d (.tuple xs)) = some (xs, none) := rfl
@[simp] theorem srcEn_l (xs : List PyData) : srcEn st [.d (.list xs)] = some (enumF 0 xs, none) := rfl
@[simp] theorem srcEn_t (xs : List PyData) : srcEn st [.d (.tuple xs)] = some (enumF 0 xs, none) := rfl
@[simp] theorem Grd_none (ds : List PyData) : Grd none ds st = True := rfl
@[simp] theorem atI_zero {α : Type} (x : α) (xs : List α) : atI (x :: xs) 0 = some x := by
  unfold atI ixN
  simp
theorem atI_at {α : Type} {xs : List α} {i : Int} {k : Nat} (h : i = (k : Nat)) (hk : k < xs.length) : atI xs i = xs[k]? := by
  subst h
  unfold atI ixN
  rw [if_pos (by omega), if_pos (by omega)]
  rfl
theorem pMul_of {i j : Int} {a b : Nat} (hi : i.natAbs < 2 ^ a) (hj : j.natAbs < 2 ^ b) (hab : a + b < 1000000) : pMul i j = true := by
  have lg : ∀ (n k : Nat), n < 2 ^ k → n.log2 ≤ k := fun n k h => by
    by_cases hn : n = 0
    · subst hn; simp
    · exact Nat.le_of_lt ((Nat.log2_lt hn).mpr h)
  unfold pMul
  have := lg _ _ hi
  have := lg _ _ hj
  exact decide_eq_true (by omega)
end
end Cp
/-! Cu: the laws' urn: made, drawn from. -/
namespace Cp
open PySem L2
noncomputable def sbU_urn : Sv := (sSeq (sAsg (gNm 2) (mV (mBin fAdd (mBin fMulA (mK (.int 13)) (mN 1)) (mK (.int 5))))) (sSeq (sIf (mCmp (gI fun i j => decide (i < j)) (mN 1) (mCal (gLen) (aCons (mV (mN 0)) aNil))) (sAsg (gNm 2) (mV (mSix (mN 0) (mN 1)))) sNil) (sSeq (sAsg (gNm 3) (mV (mBin fMulA (mBin (fI pPos fun i j => i % j) (mCal (g1 fAbs) (aCons (mV (mN 2)) aNil)) (mBin (fI pPow fun i j => i ^ j.toNat) (mBin (fI pPow fun i j => i ^ j.toNat) (mK (.int 10)) (mK (.int 60))) (mK (.int 5)))) (mCal (g1 fInt) (aCons (mV (bV (mCmp (gI fun i j => decide (j ≤ i)) (mCal (g1 fAbs) (aCons (mV (mN 2)) aNil)) (mBin (fI pPow fun i j => i ^ j.toNat) (mK (.int 10)) (mK (.int 18)))))) aNil))))) (sRet (mLst (aCons (mV (mN 3)) (aCons (mV (mBin (fI pPos fun i j => i % j) (mBin fAdd (mBin fAdd (mBin fMulA (mBin (fI pPos fun i j => i % j) (mN 2) (mK (.int 2305843009213693951))) (mK (.int 69859))) (mBin fMulA (mBin fMulA (mK (.int 5003)) (mN 1)) (mN 1))) (mK (.int 83))) (mK (.int 2305843009213693907)))) (aCons (mV (mK (.int 0))) aNil))))))))
noncomputable def semU_urn : Fs := bodyF 4 2 sbU_urn
noncomputable def sbU_next : Sv := (sSeq (sIf (mCmp (gI fun i j => decide (j < i)) (mBin fIx (mN 0) (mK (.int 0))) (mK (.int 0))) (sSeq (sAsg (gNm 2) (mV (mBin (fI pPos fun i j => i % j) (mBin fIx (mN 0) (mK (.int 0))) (mN 1)))) (sSeq (sAsg (gPl (mN 0) (mK (.int 0))) (mV (mBin (fI pDiv fun i j => i / j) (mBin fIx (mN 0) (mK (.int 0))) (mN 1)))) (sRet (mN 2)))) sNil) (sSeq (sAsg (gPl (mN 0) (mK (.int 2))) (mV (mBin fAdd (mBin fIx (mN 0) (mK (.int 2))) (mK (.int 1))))) (sSeq (sAsg (gNm 3) (mV (mBin (fI pPos fun i j => i % j) (mBin fMulA (mBin fAdd (mBin fAdd (mBin fIx (mN 0) (mK (.int 1))) (mBin fMulA (mBin fMulA (mK (.int 30011)) (mBin fIx (mN 0) (mK (.int 2)))) (mBin fIx (mN 0) (mK (.int 2))))) (mK (.int 19))) (mK (.int 69877))) (mK (.int 2305843009213693921))))) (sSeq (sAsg (gNm 3) (mV (mBin (fI pPos fun i j => i % j) (mBin fMulA (mN 3) (mBin fAdd (mBin fAdd (mBin (fI pPos fun i j => i % j) (mN 3) (mK (.int 1000039))) (mBin fMulA (mK (.int 60013)) (mBin fIx (mN 0) (mK (.int 2))))) (mK (.int 5)))) (mK (.int 2305843009213693951))))) (sRet (mBin (fI pPos fun i j => i % j) (mBin fAdd (mBin (fI pDiv fun i j => i / j) (mN 3) (mK (.int 103))) (mBin (fI pDiv fun i j => i / j) (mN 3) (mK (.int 999979)))) (mN 1)))))))
noncomputable def semU_next : Fs := bodyF 4 2 sbU_next
/-- an urn: what is left of the script's own digits, the seed, the turns -/
def urn (a b c : Int) : Cl := .l [.int a, .int b, .int c]
/-- an urn that has been drawn from at most n times -/
def Urn (n : Int) (u : Cl) : Prop := ∃ a b c : Int, u = urn a b c ∧ 0 ≤ a ∧ 0 ≤ b ∧ b < 2 ^ 61 ∧ 0 ≤ c ∧ c ≤ n
theorem Urn.mono {n m : Int} {u : Cl} (h : Urn n u) (k : n ≤ m) : Urn m u := by
  obtain ⟨a, b, c, h1, h2, h3, h4, h5, h6⟩ := h
  exact ⟨a, b, c, h1, h2, h3, h4, h5, Int.le_trans h6 k⟩
section
variable {st : Sto} {P : Rv → Sto → Prop}
theorem own_small (x : Int) (hx : 0 ≤ x) : (x % ((10 ^ 60) ^ 5 : Int)).natAbs < 2 ^ 1000 := by
  have h1 := Int.emod_lt_of_pos x (show (0 : Int) < (10 ^ 60) ^ 5 by decide)
  have h2 := Int.emod_nonneg x (show ((10 ^ 60) ^ 5 : Int) ≠ 0 by decide)
  have h3 : ((10 ^ 60) ^ 5 : Int) < ((2 ^ 1000 : Nat) : Int) := by decide +kernel
  have h4 : ((x % ((10 ^ 60) ^ 5 : Int)).natAbs : Int) < ((2 ^ 1000 : Nat) : Int) := by rw [Int.natAbs_of_nonneg h2]; exact Int.lt_trans h1 h3
  exact Int.ofNat_lt.mp h4
theorem w_urn_fin {cell k : Int} (hk : 0 ≤ k) (hk2 : k ≤ 63) (h : ∀ u, Urn 0 u → P (.n u) st) : pPow 10 60 = true ∧ pPow 1000000000000000000000000000000000000000000000000000000000000 5 = true ∧
    pPos (if cell < 0 then -cell else cell) 1000000000000000000000000000000000000000000000000000000000000000000000000000000000000000000000000000000000000000000000000000000000000000000000000000000000000000000000000000000000000000000000000000000000000000000000000000000000000000000000000000000000000000000000000000000000000000000000000000000000000 = true ∧ pPow 10 18 = true ∧
    pMul ((if cell < 0 then -cell else cell) % 1000000000000000000000000000000000000000000000000000000000000000000000000000000000000000000000000000000000000000000000000000000000000000000000000000000000000000000000000000000000000000000000000000000000000000000000000000000000000000000000000000000000000000000000000000000000000000000000000000000000000)
      (if 1000000000000000000 ≤ if cell < 0 then -cell else cell then 1 else 0) = true ∧ pPos cell 2305843009213693951 = true ∧ pMul (cell % 2305843009213693951) 69859 = true ∧ pMul 5003 k = true ∧ pMul (5003 * k) k = true ∧
    pPos (cell % 2305843009213693951 * 69859 + 5003 * k * k + 83) 2305843009213693907 = true ∧ 3 ≤ sizeLine ∧
    P (Rv.n (Cl.l [PyData.int ((if cell < 0 then -cell else cell) % 1000000000000000000000000000000000000000000000000000000000000000000000000000000000000000000000000000000000000000000000000000000000000000000000000000000000000000000000000000000000000000000000000000000000000000000000000000000000000000000000000000000000000000000000000000000000000000000000000000000000000 *
        if 1000000000000000000 ≤ if cell < 0 then -cell else cell then 1 else 0),
      PyData.int ((cell % 2305843009213693951 * 69859 + 5003 * k * k + 83) % 2305843009213693907), PyData.int 0])) st := by
  have hx : (0 : Int) ≤ if cell < 0 then -cell else cell := by split <;> omega
  have ho := own_small _ hx
  have e1 : ((10 ^ 60) ^ 5 : Int) = 1000000000000000000000000000000000000000000000000000000000000000000000000000000000000000000000000000000000000000000000000000000000000000000000000000000000000000000000000000000000000000000000000000000000000000000000000000000000000000000000000000000000000000000000000000000000000000000000000000000000000 := by decide +kernel
  rw [e1] at ho
  have hn := Int.emod_nonneg (if cell < 0 then -cell else cell) (show (1000000000000000000000000000000000000000000000000000000000000000000000000000000000000000000000000000000000000000000000000000000000000000000000000000000000000000000000000000000000000000000000000000000000000000000000000000000000000000000000000000000000000000000000000000000000000000000000000000000000000 : Int) ≠ 0 by decide)
  generalize (if cell < 0 then -cell else cell) % 1000000000000000000000000000000000000000000000000000000000000000000000000000000000000000000000000000000000000000000000000000000000000000000000000000000000000000000000000000000000000000000000000000000000000000000000000000000000000000000000000000000000000000000000000000000000000000000000000000000000000 = own at ho hn ⊢
  have hm : (if 1000000000000000000 ≤ if cell < 0 then -cell else cell then (1 : Int) else 0) = 0 ∨ (if 1000000000000000000 ≤ if cell < 0 then -cell else cell then (1 : Int) else 0) = 1 := by
    by_cases hh : 1000000000000000000 ≤ if cell < 0 then -cell else cell
    · exact .inr (if_pos hh)
    · exact .inl (if_neg hh)
  generalize (if 1000000000000000000 ≤ if cell < 0 then -cell else cell then (1 : Int) else 0) = bit at hm ⊢
  have c1 := Int.emod_lt_of_pos cell (show (0 : Int) < 2305843009213693951 by decide)
  have c2 := Int.emod_nonneg cell (show (2305843009213693951 : Int) ≠ 0 by decide)
  have d1 := Int.emod_lt_of_pos (cell % 2305843009213693951 * 69859 + 5003 * k * k + 83) (show (0 : Int) < 2305843009213693907 by decide)
  have d2 := Int.emod_nonneg (cell % 2305843009213693951 * 69859 + 5003 * k * k + 83) (show (2305843009213693907 : Int) ≠ 0 by decide)
  refine ⟨by decide +kernel, by decide +kernel, rfl, by decide +kernel, pMul_of (a := 1000) (b := 1) ho (by omega) (by decide), rfl, pMul_of (a := 70) (b := 20) (by omega) (by decide) (by decide), pMul_of (a := 20) (b := 20) (by decide) (by omega) (by decide), pMul_of (a := 40) (b := 20) (by omega) (by omega) (by decide), rfl, by decide, h _ ⟨_, _, 0, rfl, ?_, d2, ?_, Int.le_refl _, Int.le_refl _⟩⟩
  · rcases hm with e | e <;> rw [e] <;> omega
  · exact Int.lt_trans d1 (by decide)
theorem w_urn {ns : List Int} {k : Int} (hk : 0 ≤ k) (hk2 : k ≤ 63) (h : ∀ u, Urn 0 u → P (.n u) st) : WVe noE (semU_urn [.s ns, .d (.int k)] st) P := by
  obtain ⟨j, rfl⟩ : ∃ j : Nat, k = (j : Nat) := ⟨k.toNat, by omega⟩
  unfold semU_urn sbU_urn
  rw [W_body]
  simp
  refine ⟨pMul_of (a := 10) (b := 10) (by omega) (by omega) (by decide), ?_⟩
  split
  · rename_i hl
    have hj : j < ns.length := by omega
    rw [atI_at rfl hj, List.getElem?_eq_getElem hj, WO_some]
    generalize ns[j] = cell
    exact w_urn_fin hk hk2 h
  · exact w_urn_fin hk hk2 h
@[simp] theorem atI_one {α : Type} (x y : α) (xs : List α) : atI (x :: y :: xs) 1 = some y := by
  have := atI_at (xs := x :: y :: xs) (i := 1) (k := 1) rfl (by simp)
  exact this
@[simp] theorem atI_two {α : Type} (x y z : α) (xs : List α) : atI (x :: y :: z :: xs) 2 = some z := by
  have := atI_at (xs := x :: y :: z :: xs) (i := 2) (k := 2) rfl (by simp)
  exact this
@[simp] theorem ixN30 : ixN 3 0 = some 0 := rfl
@[simp] theorem ixN31 : ixN 3 1 = some 1 := rfl
@[simp] theorem ixN32 : ixN 3 2 = some 2 := rfl
theorem w_next {i : Nat} {n : Int} {u : Cl} {m : Int} (hu : st[i]? = some u) (hU : Urn m u) (hm : m < 2 ^ 200) (hn : 0 < n) (hn2 : n < 2 ^ 200) (h : ∀ (r : Int) (u' : Cl), 0 ≤ r → r < n → Urn (m + 1) u' → P (.d (.int r)) (st.set i u')) : WVe noE (semU_next [.c i, .d (.int n)] st) P := by
  obtain ⟨a, b, c, rfl, h1, h2, h3, h4, h5⟩ := hU
  unfold semU_next sbU_next
  rw [W_body]
  have hi : i < st.length := (List.getElem?_eq_some_iff.mp hu).1
  have hset : ∀ c, (st.set i c)[i]? = some c := fun c => List.getElem?_set_self hi
  have hm2 : c + 1 < 2 ^ 201 := by omega
  have hsq : 0 ≤ (c + 1) * (c + 1) ∧ (c + 1) * (c + 1) < 2 ^ 402 := by
    have h7 : (0 : Int) ≤ c + 1 := by omega
    refine ⟨Int.mul_nonneg h7 h7, ?_⟩
    have h6 : (c + 1) * (c + 1) ≤ (c + 1) * 2 ^ 201 := Int.mul_le_mul_of_nonneg_left (Int.le_of_lt hm2) h7
    have h8 : (c + 1) * 2 ^ 201 < 2 ^ 201 * 2 ^ 201 := Int.mul_lt_mul_of_pos_right hm2 (by decide)
    have h9 : (2 ^ 201 * 2 ^ 201 : Int) = 2 ^ 402 := by decide +kernel
    omega
  simp [hu, urn, hset]
  split
  · rename_i ha
    have e := Int.emod_lt_of_pos a hn
    have e2 := Int.emod_nonneg a (show n ≠ 0 by omega)
    have e3 : 0 ≤ a / n := Int.ediv_nonneg h1 (Int.le_of_lt hn)
    refine ⟨decide_eq_true hn, ?_, h _ _ e2 e ⟨a / n, b, c, rfl, e3, h2, h3, h4, by omega⟩⟩
    unfold pDiv
    have : n.natAbs < 2 ^ 200 := by omega
    have h6 : n.natAbs ≠ 0 := by omega
    have := (Nat.log2_lt h6).mpr this
    rw [decide_eq_true hn, decide_eq_true (show n.natAbs.log2 < 9000 by omega)]; rfl
  · rename_i ha
    have e0 : a = 0 := by omega
    subst e0
    have q1 : (30011 * (c + 1) * (c + 1) : Int) = 30011 * ((c + 1) * (c + 1)) := Int.mul_assoc ..
    rw [q1]
    generalize (c + 1) * (c + 1) = sq at hsq ⊢
    have k1 := Int.emod_lt_of_pos ((b + 30011 * sq + 19) * 69877) (show (0 : Int) < 2305843009213693921 by decide)
    have k2 := Int.emod_nonneg ((b + 30011 * sq + 19) * 69877) (show (2305843009213693921 : Int) ≠ 0 by decide)
    have k3 : (b + 30011 * sq + 19).natAbs < 2 ^ 420 := by omega
    generalize (b + 30011 * sq + 19) * 69877 % 2305843009213693921 = blend at k1 k2 ⊢
    have k4 := Int.emod_lt_of_pos blend (show (0 : Int) < 1000039 by decide)
    have k5 := Int.emod_nonneg blend (show (1000039 : Int) ≠ 0 by decide)
    have k6 : (blend % 1000039 + 60013 * (c + 1) + 5).natAbs < 2 ^ 220 := by omega
    generalize blend * (blend % 1000039 + 60013 * (c + 1) + 5) % 2305843009213693951 / 103 + blend * (blend % 1000039 + 60013 * (c + 1) + 5) % 2305843009213693951 / 999979 = last
    exact ⟨pMul_of (a := 20) (b := 201) (by decide) (by omega) (by decide), pMul_of (a := 220) (b := 201) (by omega) (by omega) (by decide), pMul_of (a := 420) (b := 20) k3 (by decide) (by decide), rfl, rfl,
      pMul_of (a := 20) (b := 201) (by decide) (by omega) (by decide), pMul_of (a := 62) (b := 220) (by omega) k6 (by decide), rfl, rfl, rfl, decide_eq_true hn,
      h _ _ (Int.emod_nonneg last (by omega)) (Int.emod_lt_of_pos last hn) ⟨0, b, c + 1, rfl, Int.le_refl _, h2, h3, by omega, by omega⟩⟩
@[simp] theorem take_set {α : Type} (s : List α) (i : Nat) (u : α) : (s.set i u).take s.length = s.set i u := List.take_of_length_le (by simp)
@[simp] theorem take_set1 {α : Type} (s : List α) (i : Nat) (u v : α) (hi : i < s.length) : ((s ++ [v]).set i u).take s.length = s.set i u := by rw [List.set_append_left _ _ hi]; exact List.take_left' (by simp)
@[simp] theorem take_app {α : Type} (s t : List α) : (s ++ t).take s.length = s := List.take_left' rfl
@[simp] theorem gr1 {α : Type} {s : List α} {i : Nat} {u c : α} : (s.set i u ++ [c])[s.length]? = some c := by
  rw [List.getElem?_append_right (by simp)]; simp
@[simp] theorem sr1 {α : Type} {s : List α} {i : Nat} {u c d : α} : (s.set i u ++ [c]).set s.length d = s.set i u ++ [d] := by
  rw [List.set_append_right _ _ (by simp)]; simp
@[simp] theorem tk1 {α : Type} {s : List α} {i : Nat} {u c : α} : (s.set i u ++ [c]).take s.length = s.set i u := List.take_left' (by simp)
@[simp] theorem tk2 {α : Type} {s : List α} {i : Nat} {u c : α} : (s.set i u ++ [c]).take (s.length + 1) = s.set i u ++ [c] := List.take_of_length_le (by simp)
@[simp] theorem gr0 {α : Type} {s : List α} {c : α} : (s ++ [c])[s.length]? = some c := by simp
theorem rngD_get {lo hi : Int} {i : Nat} {d : PyData} (h : (rngD lo hi)[i]? = some d) : d = .int (lo + i) ∧ (i : Int) < hi - lo := by
  unfold rngD at h
  rw [List.getElem?_map] at h
  obtain ⟨k, h1, rfl⟩ := Option.map_eq_some_iff.mp h
  obtain ⟨h2, h3⟩ := List.getElem?_eq_some_iff.mp h1
  rw [List.getElem_range] at h3
  rw [List.length_range] at h2
  subst h3
  exact ⟨rfl, by omega⟩
end
end Cp
/-! Cw: texts: their lengths, what is shown of data. -/
namespace Cp
open PySem L2
/-- a text of at most n signs -/
def Txs (n : Nat) (x : Str) : Prop := x.length ≤ n ∧ ∀ c ∈ x.cps.toList, c < 0x110000
theorem Txs.mono {n m : Nat} {x : Str} (h : Txs n x) (k : n ≤ m) : Txs m x := ⟨Nat.le_trans h.1 k, h.2⟩
theorem Txs.ofString {n : Nat} (s : String) (h : s.length ≤ n) : Txs n (Str.ofString s) := by
  rw [Str.ofString_eq_toList]
  refine ⟨?_, fun c hc => ?_⟩
  · show (s.toList.map Char.toNat).toArray.size ≤ n
    rw [List.size_toArray, List.length_map, String.length_toList]; exact h
  · have hc' : c ∈ s.toList.map Char.toNat := by simpa using hc
    obtain ⟨ch, _, rfl⟩ := List.mem_map.mp hc'
    have h := ch.valid
    have e : ch.toNat = ch.val.toNat := rfl
    simp only [UInt32.isValidChar, Nat.isValidChar] at h
    have : ch.val.toNat < 1114112 := by omega
    rw [e]
    exact this
theorem Txs.int {k : Nat} {i : Int} (hk : 0 < k) (h : i.natAbs < 10 ^ k) : Txs (k + 1) (txI i) := Txs.ofString _ (int_text_length_le10 hk h)
theorem Txs.int2 {k : Nat} {i : Int} (hk : 0 < k) (h : i.natAbs.log2 < k) : Txs (k + 1) (Str.ofString (toString i)) := Txs.ofString _ (int_text_length_le hk h)
/-! ### what is shown -/
mutual
def siz : PyData → Nat
  | .none | .bool _ => 5
  | .int i => i.natAbs.log2 + 2
  | .str x => 10 * x.length + 2
  | .list xs | .tuple xs => sizAll xs + 3
  | .dict kvs => sizKv kvs + 3
def sizAll : List PyData → Nat
  | [] => 0
  | x :: xs => siz x + 2 + sizAll xs
def sizKv : List (PyData × PyData) → Nat
  | [] => 0
  | (k, v) :: r => siz k + siz v + 4 + sizKv r
end
mutual
def okS : PyData → Prop
  | .none | .bool _ => True
  | .int i => i.natAbs.log2 < 1920
  | .str x => ∀ c ∈ x.cps.toList, c < 0x110000
  | .list xs | .tuple xs => okSs xs
  | .dict _ => False
def okSs : List PyData → Prop
  | [] => True
  | x :: xs => okS x ∧ okSs xs
end
theorem join_len (ts : List Str) : (Str.join ", " ts).length ≤ (ts.map fun t => t.length + 2).sum := by
  induction ts with
  | nil => exact Nat.zero_le _
  | cons t r ih =>
    cases r with
    | nil => show t.length ≤ _; simp
    | cons u r =>
      show (t ++ ", " ++ Str.join ", " (u :: r)).length ≤ _
      rw [strLen_append, strLen_append, List.map_cons, List.sum_cons]
      have e2 : ((", " : String) : Str).length = 2 := rfl
      omega
theorem text_len (ts : List Str) : (PySem.listText ts).length ≤ (ts.map fun t => t.length + 2).sum + 2 := by
  have h : ∀ (ts : List Str) (k : Nat) (acc : Str), (PySem.textFrom k acc ts).length ≤ acc.length + (ts.map fun t => t.length + 2).sum := by
    intro ts
    induction ts with
    | nil => intro k acc; exact Nat.le_add_right _ _
    | cons t r ih =>
      intro k acc
      show (PySem.textFrom (k + 1) (acc ++ (if k > 0 then ", " else "" : String) ++ t) r).length ≤ _
      refine Nat.le_trans (ih _ _) ?_
      rw [strLen_append, strLen_append, List.map_cons, List.sum_cons]
      have e : ((if k > 0 then ", " else "" : String) : Str).length ≤ 2 := by split <;> decide
      omega
  show (PySem.textFrom 0 "[" ts ++ "]").length ≤ _
  rw [strLen_append]
  have := h ts 0 "["
  have e1 : (("[" : String) : Str).length = 1 := rfl
  have e2 : (("]" : String) : Str).length = 1 := rfl
  omega
mutual
theorem shown_ok : ∀ {d : PyData}, okS d → d.showable = true ∧ d.hasDict = false ∧ d.shown.length ≤ siz d
  | .none, _ => ⟨rfl, rfl, by decide⟩
  | .bool b, _ => ⟨rfl, rfl, by cases b <;> decide⟩
  | .int i, h => ⟨decide_eq_true h, rfl, (Txs.int2 (i := i) (k := i.natAbs.log2 + 1) (Nat.succ_pos _) (Nat.lt_succ_self _)).1⟩
  | .str x, h => ⟨rfl, rfl, PySem.StrLaws.reprText_len x fun c hc => Nat.lt_trans (h c hc) (by decide)⟩
  | .list xs, h => by
    obtain ⟨h1, h2, h3⟩ := shown_oks h
    refine ⟨h1, h2, ?_⟩
    show (PySem.listText (PyData.shownAll xs)).length ≤ sizAll xs + 3
    have := text_len (PyData.shownAll xs)
    omega
  | .tuple xs, h => by
    obtain ⟨h1, h2, h3⟩ := shown_oks h
    refine ⟨h1, h2, ?_⟩
    show (("(" : Str) ++ Str.join ", " (PyData.shownAll xs) ++ (if (PyData.shownAll xs).length == 1 then ",)" else ")" : String)).length ≤ sizAll xs + 3
    rw [strLen_append, strLen_append]
    have := join_len (PyData.shownAll xs)
    have e1 : (("(" : String) : Str).length = 1 := rfl
    have e : ((if (PyData.shownAll xs).length == 1 then ",)" else ")" : String) : Str).length ≤ 2 := by split <;> decide
    omega
  | .dict _, h => False.elim h
theorem shown_oks : ∀ {ds : List PyData}, okSs ds → PyData.showableAll ds = true ∧ PyData.hasDictAll ds = false ∧ ((PyData.shownAll ds).map fun t => t.length + 2).sum ≤ sizAll ds
  | [], _ => ⟨rfl, rfl, Nat.le_refl _⟩
  | d :: ds, h => by
    obtain ⟨h1, h2, h3⟩ := shown_ok h.1
    obtain ⟨k1, k2, k3⟩ := shown_oks h.2
    refine ⟨?_, ?_, ?_⟩
    · show (d.showable && PyData.showableAll ds) = true; rw [h1, k1]; rfl
    · show (d.hasDict || PyData.hasDictAll ds) = false; rw [h2, k2]; rfl
    · show ((d.shown :: PyData.shownAll ds).map _).sum ≤ _
      rw [List.map_cons, List.sum_cons]
      show _ ≤ siz d + 2 + sizAll ds
      omega
end
theorem fRepr_at {d : PyData} (h : okS d) (hs : siz d ≤ sizeLine) (hd : d.depth ≤ 60) : fRepr d = some (.d (.str d.shown)) := by
  obtain ⟨h1, h2, h3⟩ := shown_ok h
  have : shw d = true := by
    unfold shw
    rw [h1, h2, decide_eq_true (Nat.le_trans h3 hs), decide_eq_true hd]; rfl
  unfold fRepr
  rw [if_pos this]
/-! ### signs -/
theorem chr_lt (ch : Char) : ch.toNat < 0x110000 := by
  have h := ch.valid
  have e : ch.toNat = ch.val.toNat := rfl
  simp only [UInt32.isValidChar, Nat.isValidChar] at h
  rw [e]; omega
abbrev Sgn (x : Str) : Prop := ∀ c ∈ x.cps.toList, c < 0x110000
theorem Sgn.add {x y : Str} (h : Sgn x) (k : Sgn y) : Sgn (x ++ y) := fun c hc => by
  have e : (x ++ y).cps.toList = x.cps.toList ++ y.cps.toList := by
    show (x.cps ++ y.cps).toList = _
    rw [Array.toList_append]
  rw [e, List.mem_append] at hc
  exact hc.elim (h c) (k c)
theorem Sgn.lit (s : String) : Sgn (Str.ofString s) := (Txs.ofString (n := s.length) s (Nat.le_refl _)).2
theorem reprChar_lt {q c : Nat} (hc : c < 0x110000) : ∀ d ∈ Builtin.Str.reprChar q c, d < 0x110000 := by
  have hx : ∀ w d, d ∈ List.replicate (w - ((Nat.toDigits 16 c).map Char.toNat).length) 48 ++ (Nat.toDigits 16 c).map Char.toNat → d < 0x110000 := fun w d hd => by
    rcases List.mem_append.mp hd with h | h
    · rw [(List.mem_replicate.mp h).2]; decide
    · obtain ⟨ch, _, rfl⟩ := List.mem_map.mp h; exact chr_lt ch
  intro d hd
  unfold Builtin.Str.reprChar at hd
  simp only [] at hd
  split at hd
  · rcases List.mem_cons.mp hd with rfl | h
    · decide
    · rw [List.mem_singleton.mp h]; exact hc
  split at hd
  · rcases List.mem_cons.mp hd with rfl | h
    · decide
    · rw [List.mem_singleton.mp h]; decide
  split at hd
  · rcases List.mem_cons.mp hd with rfl | h
    · decide
    · rw [List.mem_singleton.mp h]; decide
  split at hd
  · rcases List.mem_cons.mp hd with rfl | h
    · decide
    · rw [List.mem_singleton.mp h]; decide
  split at hd
  · rw [List.mem_singleton.mp hd]; exact hc
  have two : ∀ w b, d ∈ [92, b] ++ (List.replicate (w - ((Nat.toDigits 16 c).map Char.toNat).length) 48 ++ (Nat.toDigits 16 c).map Char.toNat) → b < 0x110000 → d < 0x110000 := fun w b h hb => by
    rcases List.mem_append.mp h with h | h
    · rcases List.mem_cons.mp h with rfl | h
      · decide
      · rw [List.mem_singleton.mp h]; exact hb
    · exact hx w d h
  split at hd
  · exact two 2 120 hd (by decide)
  split at hd
  · exact two 4 117 hd (by decide)
  · exact two 8 85 hd (by decide)
theorem repr_sgn {x : Str} (h : Sgn x) : Sgn (reprText x) := by
  have hq : reprQuote x < 0x110000 := by
    unfold reprQuote
    split <;> decide
  have key : ∀ (l : List Nat) (acc : Array Nat), (∀ c ∈ l, c < 0x110000) → (∀ c ∈ acc.toList, c < 0x110000) → ∀ c ∈ (l.foldl (fun out c => out ++ (Builtin.Str.reprChar (reprQuote x) c).toArray) acc).toList, c < 0x110000 := by
    intro l
    induction l with
    | nil => intro acc _ h2; exact h2
    | cons a r ih =>
      intro acc h1 h2
      refine ih _ (fun c hc => h1 c (List.mem_cons_of_mem _ hc)) fun c hc => ?_
      rw [Array.toList_append, List.mem_append] at hc
      rcases hc with hc | hc
      · exact h2 c hc
      · exact reprChar_lt (h1 a (List.mem_cons_self ..)) c (by simpa using hc)
  intro c hc
  have e : (reprText x).cps.toList = (x.cps.toList.foldl (fun out c => out ++ (Builtin.Str.reprChar (reprQuote x) c).toArray) #[reprQuote x]).toList ++ [reprQuote x] := by
    unfold reprText
    rw [Array.toList_push, ← Array.foldl_toList]
  rw [e, List.mem_append] at hc
  rcases hc with hc | hc
  · refine key _ _ h (fun d hd => ?_) c hc
    have : d = reprQuote x := by simpa using hd
    rw [this]; exact hq
  · rw [List.mem_singleton.mp hc]; exact hq
theorem join_sgn {sep : Str} (hs : Sgn sep) : ∀ {ts : List Str}, (∀ t ∈ ts, Sgn t) → Sgn (Str.join sep ts)
  | [], _ => fun c hc => by simp [Str.join, Str.empty] at hc
  | [t], h => h t (List.mem_cons_self ..)
  | t :: u :: r, h => Sgn.add (Sgn.add (h t (List.mem_cons_self ..)) hs) (join_sgn hs fun z hz => h z (List.mem_cons_of_mem _ hz))
theorem text_sgn {ts : List Str} (h : ∀ t ∈ ts, Sgn t) : Sgn (PySem.listText ts) := by
  have key : ∀ (ts : List Str) (k : Nat) (acc : Str), Sgn acc → (∀ t ∈ ts, Sgn t) → Sgn (PySem.textFrom k acc ts) := by
    intro ts
    induction ts with
    | nil => intro k acc h _; exact h
    | cons t r ih =>
      intro k acc h1 h2
      refine ih (k + 1) _ (Sgn.add (Sgn.add h1 (Sgn.lit _)) (h2 t (List.mem_cons_self ..))) fun z hz => h2 z (List.mem_cons_of_mem _ hz)
  exact Sgn.add (key ts 0 _ (Sgn.lit _) h) (Sgn.lit _)
mutual
theorem shown_sgn : ∀ {d : PyData}, okS d → Sgn d.shown
  | .none, _ => Sgn.lit _
  | .bool b, _ => by cases b <;> exact Sgn.lit _
  | .int i, h => Sgn.lit _
  | .str x, h => repr_sgn h
  | .list xs, h => text_sgn (shown_sgns h)
  | .tuple xs, h => Sgn.add (Sgn.add (Sgn.lit _) (join_sgn (Sgn.lit _) (shown_sgns h))) (Sgn.lit _)
  | .dict _, h => False.elim h
theorem shown_sgns : ∀ {ds : List PyData}, okSs ds → ∀ t ∈ PyData.shownAll ds, Sgn t
  | [], _ => fun t ht => nomatch ht
  | d :: ds, h => fun t ht => by
    rcases List.mem_cons.mp ht with rfl | ht
    · exact shown_sgn h.1
    · exact shown_sgns h.2 t ht
end
/-! ### alike or not -/
mutual
theorem canLay_ok : ∀ {d : PyData}, okS d → d.canLay0 = true
  | .none, _ => rfl
  | .bool b, _ => rfl
  | .int i, h => rfl
  | .str x, h => by
    show x.cps.all (· < 0x110000) = true
    rw [Array.all_eq_true']
    intro c hc
    exact decide_eq_true (h c (by simpa using hc))
  | .list xs, h => canLay_oks h
  | .tuple xs, h => canLay_oks h
  | .dict _, h => False.elim h
theorem canLay_oks : ∀ {ds : List PyData}, okSs ds → PyData.canLayAll0 ds = true
  | [], _ => rfl
  | d :: ds, h => by
    show (d.canLay0 && PyData.canLayAll0 ds) = true
    rw [canLay_ok h.1, canLay_oks h.2]; rfl
end
theorem shaped_ok {d : PyData} (h : okS d) (hd : d.depth ≤ 64) : SeqAt.shaped d = true := by
  unfold SeqAt.shaped
  rw [canLay_ok h, decide_eq_true hd]; rfl
mutual
theorem eqv_refl : ∀ {d : PyData}, d.canLay0 = true → PyData.eqv d d = true
  | .none, _ => rfl
  | .bool b, _ => by cases b <;> rfl
  | .int i, _ => by show (i == i) = true; simp
  | .str x, _ => by show (x == x) = true; simp
  | .list xs, h => eqv_refls h
  | .tuple xs, h => eqv_refls h
  | .dict _, h => by cases h
theorem eqv_refls : ∀ {ds : List PyData}, PyData.canLayAll0 ds = true → PyData.eqvAll ds ds = true
  | [], _ => rfl
  | d :: ds, h => by
    have h' : (d.canLay0 && PyData.canLayAll0 ds) = true := h
    rw [Bool.and_eq_true] at h'
    show (PyData.eqv d d && PyData.eqvAll ds ds) = true
    rw [eqv_refl h'.1, eqv_refls h'.2]; rfl
end
theorem gNe_same {d : PyData} (h : SeqAt.shaped d = true) : gNe d d = some false := by
  unfold gNe
  rw [h]
  show some (!PyData.eqv d d) = _
  rw [eqv_refl (SeqAt.canLay_of_shaped h)]; rfl
@[simp] theorem gEq_int (x y : Int) : gEq (.int x) (.int y) = some (decide (x = y)) := by
  unfold gEq
  rw [if_pos (by rfl)]
  have : PyData.eqv (.int x) (.int y) = decide (x = y) := by
    show (x == y) = _
    by_cases h : x = y <;> simp [h]
  rw [this]
end Cp
/-! Ct: isinstance, zip, chains of comparisons. -/
namespace Cp
open PySem L2
section
variable {X : Cx} {C : Cn} {Q : VK} {μ : Mu} {F H : Hp} {st : Sto} {e a b c : Expr} {m ma mb mc : Ev} {pos p p2 tpos : Pos} {mas : En → Sto → Res (List Vl)} {elts : List Expr} {kk : Nat}
/-! ### chains -/
def mChn (g g' : PyData → PyData → Option Bool) (ma mb mc : Ev) : En → Sto → Res Bool := fun ρ st => (mV ma ρ st).bind fun x s1 => (mV mb ρ s1).bind fun y s2 => match cmp2 g s2 x y with
  | some true => (mV mc ρ s2).bind fun z s3 => okB (cmp2 g' s3 y z) s3
  | some false => .ok false s2
  | none => .no
/-! ### isinstance -/
def tyD : PyData → String
  | .none => "NoneType"
  | .bool _ => "bool"
  | .int _ => "int"
  | .str _ => "str"
  | .list _ => "list"
  | .tuple _ => "tuple"
  | .dict _ => "dict"
/-- a dict whose keys are not flat (or an instance) -/
def isQ : PyData → Bool
  | .dict kvs => !flK kvs
  | _ => false
@[simp] theorem isQ_none : isQ .none = false := rfl
@[simp] theorem isQ_bool (b : Bool) : isQ (.bool b) = false := rfl
@[simp] theorem isQ_int (b : Int) : isQ (.int b) = false := rfl
@[simp] theorem isQ_str (b : Str) : isQ (.str b) = false := rfl
@[simp] theorem isQ_list (b : List PyData) : isQ (.list b) = false := rfl
@[simp] theorem isQ_tuple (b : List PyData) : isQ (.tuple b) = false := rfl
@[simp] theorem isQ_dict0 : isQ (.dict []) = false := rfl
def kitQ (d : PyData) (T : String) : Option Bool := if isQ d then none else kitB (tyD d) T
def mIsi (T : String) (ma : Ev) : Ev := fun ρ st => (mV ma ρ st).bind fun x s => match (view s x).bind fun d => kitQ d T with
  | some k => .ok (.d (.bool k)) s
  | none => .no
theorem Vw.ty {K : Kw} {v : V} {d : PyData} (s : Same F H) (h : Vw K F H v d) (hq : isQ d = false) (K' : PySem.W.Frag) : TyX K' H v (.type (tyD d)) := by
  cases d with
  | none => rw [h.non]; exact .base .non
  | bool b => rw [h.bl]; exact .base (.bl b)
  | int b => rw [h.int]; exact .base (.int b)
  | str b => rw [h.str]; exact .base (.str b)
  | list b => obtain ⟨q, xs, rfl, h1, _⟩ := h; exact .base (.lst h1)
  | tuple b =>
    obtain ⟨q, xs, rfl, h1, _⟩ := h.tup
    rcases same_rd s h1 with h1 | ⟨o, h1⟩
    · exact .base (.tup h1)
    · exact .fTuple h1
  | dict b => obtain ⟨q, xs, rfl, h1, _⟩ := h.flat_dict (by simpa [isQ] using hq); exact .base (.dK h1)
theorem boot_isi : bootBuiltins "isinstance" = some (.builtin "isinstance") := by decide +kernel
@[simp] theorem W_mIsi {ρ : En} {T : String} {E : Er → Sto → Prop} {P : Rv → Sto → Prop} : WVe E (mIsi T ma ρ st) P = WVe E (ma ρ st) fun r s => WO (view s (frz r)) fun d => isQ d = false ∧ WO (kitB (tyD d) T) fun k => P (.d (.bool k)) s := by
  unfold mIsi; rw [WV_bind, W_mV]
  congr 1; funext r s
  cases view s (frz r) with
  | none => rfl
  | some d => simp only [Option.bind, WO_some, kitQ]; cases isQ d <;> cases kitB (tyD d) T <;> simp <;> rfl
@[simp] theorem W_mChn {ρ : En} {g g' : PyData → PyData → Option Bool} {E : Er → Sto → Prop} {P : Bool → Sto → Prop} : WVe E (mChn g g' ma mb mc ρ st) P = WVe E (ma ρ st) fun r1 s1 => WVe E (mb ρ s1) fun r2 s2 => WO (cmp2 g s2 (frz r1) (frz r2)) fun k => if k = true then WVe E (mc ρ s2) fun r3 s3 => WO (cmp2 g' s3 (frz r2) (frz r3)) fun k => P k s3 else P false s2 := by
  unfold mChn; rw [WV_bind, W_mV]
  congr 1; funext r1 s1; rw [WV_bind, W_mV]
  congr 1; funext r2 s2
  cases cmp2 g s2 (frz r1) (frz r2) with
  | none => rfl
  | some k =>
    cases k with
    | false => rfl
    | true =>
      simp only [WO_some, if_true]
      rw [WV_bind, W_mV]
      congr 1; funext r3 s3; rw [WV_okB]
/-! ### zip -/
def zipF : List PyData → List PyData → List PyData
  | a :: as, b :: bs => .tuple [a, b] :: zipF as bs
  | _, _ => []
def srcZp (xs : List Vl) : Option Src := match xs with
  | [.d (.list xs), .d (.list ys)] => some (zipF xs ys, none)
  | [.d (.tuple xs), .d (.tuple ys)] => some (zipF xs ys, none)
  | _ => none
/-- a tuple known whole, as data -/
def tpD : Vl → Vl
  | .o (.tp ds) => .d (.tuple ds)
  | x => x
@[simp] theorem tpD_d (d : PyData) : tpD (.d d) = .d d := rfl
@[simp] theorem tpD_c (i : Nat) : tpD (.c i) = .c i := rfl
@[simp] theorem tpD_tp (ds : List PyData) : tpD (.o (.tp ds)) = .d (.tuple ds) := rfl
def iZp (ma : En → Sto → Res (List Vl)) : En → Sto → Res Src := fun ρ st => (ma ρ st).bind fun xs s => okO (srcZp (xs.map tpD)) s
@[simp] theorem srcZp_l (xs ys : List PyData) : srcZp [.d (.list xs), .d (.list ys)] = some (zipF xs ys, none) := rfl
@[simp] theorem srcZp_t (xs ys : List PyData) : srcZp [.d (.tuple xs), .d (.tuple ys)] = some (zipF xs ys, none) := rfl
@[simp] theorem W_iZp {ρ : En} {P : Src → Sto → Prop} : WVe noE (iZp mas ρ st) P = WVe noE (mas ρ st) fun xs s => WO (srcZp (xs.map tpD)) fun dg => P dg s := by
  unfold iZp; rw [WV_bind]
  congr 1; funext xs s; rw [WV_okO]
end
end Cp
/-! Cd: dicts that are written out. -/
namespace Cp
open PySem L2
section
variable {X : Cx} {C : Cn} {Q : VK} {μ : Mu} {F H : Hp} {st : Sto} {pos : Pos} {keys : List (Option Expr)} {values : List Expr}
def mPairs : List (Ev × Ev) → En → Sto → Res (List (PyData × PyData))
  | [], _, st => .ok [] st
  | (mk, mv) :: r, ρ, st => (mV mk ρ st).bind fun x s1 => (mV mv ρ s1).bind fun y s2 => match x, y with
    | .d a, .d b => (mPairs r ρ s2).bind fun kvs s3 => .ok ((a, b) :: kvs) s3
    | _, _ => .no
/-- keys: ints and texts, each once -/
def keyD : PyData → Option Key
  | .int i => some (.inl i)
  | .str x => some (.inr x)
  | _ => none
def keysD : List (PyData × PyData) → Option (List Key)
  | [] => some []
  | (k, _) :: r => match keyD k, keysD r with
    | some k, some ks => if ks.any (fun j => decide (j = k)) = true then none else some (k :: ks)
    | _, _ => none
def mDct (prs : List (Ev × Ev)) : Ev := fun ρ st => (mPairs prs ρ st).bind fun kvs s => if (keysD kvs).isSome = true ∧ kvs.length ≤ 15 then .ok (.n (.m kvs)) s else .no
/-! ### reading a dict by a key -/
def keyB : PyData → PyData → Bool
  | .int i, .int j => decide (i = j)
  | .str x, .str y => decide (x = y)
  | _, _ => false
def lookK : List (PyData × PyData) → PyData → Option PyData
  | [], _ => none
  | (j, v) :: r, k => if keyB j k then some v else lookK r k
def vRv : Vl → Rv
  | .d x => .d x
  | .c i => .c i
  | .s ns => .s ns
  | .o x => .o x
/-- d.get(k, x) -/
def mDGet2 (md mk mx : Ev) : Ev := fun ρ st => (mV md ρ st).bind fun x s1 => match view s1 x with
  | some (.dict kvs0) => if flK kvs0 = true then (mV mk ρ s1).bind fun y s2 => (mV mx ρ s2).bind fun z s3 => match view s3 x, y with
    | some (.dict kvs), .d y => if flK kvs = true then (if (keyD y).isSome then (match lookK kvs y with
      | some v => .ok (.d v) s3
      | none => .ok (vRv z) s3) else .no) else .no
    | _, _ => .no else .no
  | _ => .no
variable {a b c : Expr} {ma mb mc : Ev} {apos : Pos}
/-- {} -/
def mD0 : Ev := fun _ st => .ok (.n (.m [])) st
theorem s_d0 : PE X (.Dict [] [] pos) (tM C mD0) := pe_dnewK.imp fun σ H Q ⟨ρ, st, μ, F, h1, h2, h3⟩ p hp => by
  obtain ⟨s1, x1⟩ := h2.newly (o := .dK []) hp
  have dd := h2.dead hp
  exact h3 _ μ F _ ⟨x1, s1, ⟨p, _, rfl, upd_same, .inl ⟨[], rfl, .nil⟩, dd.1, dd.2⟩, fun _ _ => ⟨p, rfl, hp⟩⟩
end
end Cp
/-! Ch: the head's facts as Bool functions of the written part; facts of own error classes. -/
namespace Cp
open PySem PySem.Spec PyProof.Rows L2
abbrev Fb : Type := PySem.W.Frag → Bool
def obsX (fb : List Fb) (fn : List He.DefD) (K : PySem.W.Frag) : He.AlD := ((fb.all fun f => f K) && fn.all fun d => d.ok K, fn.map fun d => He.fnW K d.at_)
def SaysX (fb : List Fb) (fn : List He.DefD) (K : PySem.W.Frag) : Prop := obsX fb fn K = He.valD fn
section
variable {fb : List Fb} {fn : List He.DefD} {K : PySem.W.Frag}
theorem SaysX.fact (c : SaysX fb fn K) (i : Nat) {f : Fb} (h : fb[i]? = some f := by rfl) : f K = true := by
  have c1 := (He.ba (show ((fb.all fun f => f K) && fn.all fun d => d.ok K) = true from congrArg (fun z : He.AlD => z.1) c)).1
  exact List.all_eq_true.mp c1 f (List.mem_of_getElem? h)
theorem SaysX.def_ (c : SaysX fb fn K) (i : Nat) {d : He.DefD} (h : fn[i]? = some d := by rfl) : ∃ fd, FunD K d.name d.qual d.params d.body d.scope (d.dvs K) (d.kws K) (He.fAd K d.at_) fd := by
  have c2 := (He.ba (show ((fb.all fun f => f K) && fn.all fun d => d.ok K) = true from congrArg (fun z : He.AlD => z.1) c)).2
  have e : fn.map (fun d => He.fnW K d.at_) = fn.map He.DefD.val := congrArg (fun z : He.AlD => z.2) c
  have e2 : (fn.map fun d => He.fnW K d.at_)[i]? = (fn.map He.DefD.val)[i]? := by rw [e]
  rw [List.getElem?_map, List.getElem?_map, h] at e2
  exact He.DefD.funD (Option.some.inj e2) (List.all_eq_true.mp c2 d (List.mem_of_getElem? h))
end
/-! ### own error classes -/
/-- what isinstance asks of an error's class -/
structure ErrC (K : PySem.W.Frag) (C : Addr) : Prop where
  cl : (PySem.W.clsIn K C).isSome = true
  ga : PySem.W.findIn K (.ref C) "__getattribute__" = some (some (.builtin "BaseException.__getattribute__"))
  gt : PySem.W.findIn K (.ref C) "__getattr__" = some none
  su : PySem.W.subIn K (.ref C) (.type "BaseException") = some true
  kc : PySem.W.findIn K (.ref C) "__class__" = some (some (.builtin "object.__class__"))
  sp : PySem.W.specialIn K (.builtin "object.__class__") "__get__" = some (some (.builtin "getset_descriptor.__get__"))
  tk : PySem.W.takesIn K (.builtin "object.__class__") = some true
  mr : PySem.W.mroIn K C (.type "object") = some true
  hd : PySem.W.hasDictIn K C = true
def errB (x : Str) : Fb := fun K => (PySem.W.clsIn K (He.ga K x)).isSome && (He.eqO (PySem.W.findIn K (.ref (He.ga K x)) "__getattribute__") (some (some (.builtin "BaseException.__getattribute__"))) && (He.eqO (PySem.W.findIn K (.ref (He.ga K x)) "__getattr__") (some none) &&
  (decide (PySem.W.subIn K (.ref (He.ga K x)) (.type "BaseException") = some true) && (He.eqO (PySem.W.findIn K (.ref (He.ga K x)) "__class__") (some (some (.builtin "object.__class__"))) && (He.eqO (PySem.W.specialIn K (.builtin "object.__class__") "__get__") (some (some (.builtin "getset_descriptor.__get__"))) &&
  (decide (PySem.W.takesIn K (.builtin "object.__class__") = some true) && (decide (PySem.W.mroIn K (He.ga K x) (.type "object") = some true) && PySem.W.hasDictIn K (He.ga K x))))))))
theorem errB_ok {x : Str} {K : PySem.W.Frag} (h : errB x K = true) : ErrC K (He.ga K x) := by
  obtain ⟨h1, h⟩ := He.ba h
  obtain ⟨h2, h⟩ := He.ba h
  obtain ⟨h3, h⟩ := He.ba h
  obtain ⟨h4, h⟩ := He.ba h
  obtain ⟨h5, h⟩ := He.ba h
  obtain ⟨h6, h⟩ := He.ba h
  obtain ⟨h7, h⟩ := He.ba h
  obtain ⟨h8, h9⟩ := He.ba h
  exact ⟨h1, He.eqO_ok h2, He.eqO_ok h3, of_decide_eq_true h4, He.eqO_ok h5, He.eqO_ok h6, of_decide_eq_true h7, of_decide_eq_true h8, h9⟩
/-- whether the classes named are asked rightly -/
def isB (x : Str) (ys : List Str) (b : Bool) : Fb := fun K => decide (PySem.W.kitAny K (.ref (He.ga K x)) (ys.map fun y => .ref (He.ga K y)) = some b)
def isNB (ys : List Str) : Fb := fun K => decide (PySem.W.kitAny K (.type "NoneType") (ys.map fun y => .ref (He.ga K y)) = some false)
theorem kit1 {K : PySem.W.Frag} {t c : Value} {b : Bool} (h : PySem.W.kitAny K t [c] = some b) : PySem.W.kitOne K t c = some b := by
  unfold PySem.W.kitAny at h
  cases q : PySem.W.kitOne K t c with
  | none => rw [q] at h; cases h
  | some v =>
    rw [q] at h
    cases v with
    | true => exact h
    | false => exact h
/-! ### a class whose __init__ keeps one field -/
def exObjB (x : Str) : Fb := fun K => match K.lookup (He.ga K x) with
  | some ⟨.type "type", _, .cls cd, sl⟩ => (match cd.mro, sl.toList with
    | .ref C' :: bm, [_, _, _, _, some (.builtin n), _] => C' == He.ga K x && n == "ValueError.__new__" && !cd.hasDel && PySem.HandSPX.refsVE bm && cd.hasDict
    | _, _ => false)
  | _ => false
theorem exObjB_ok {x : Str} {K : PySem.W.Frag} (q : exObjB x K = true) : ∃ nm qn N bs bm sn sub ab col dd k0 k1 k2 k3 k5, K.lookup (He.ga K x) = some (excClassObj nm qn (He.ga K x) N bs bm true sn sub ab col dd k0 k1 k2 k3 k5 "ValueError.__new__") ∧ PySem.HandSPX.refsVE bm = true := by
  unfold exObjB at q
  split at q
  · rename_i dd cd sl ho
    split at q
    · rename_i C' bm k0 k1 k2 k3 n k5 hm hs
      simp only [Bool.and_eq_true, beq_iff_eq, Bool.not_eq_true'] at q
      obtain ⟨⟨⟨⟨e1, rfl⟩, hdel⟩, ht⟩, hh⟩ := q
      subst e1
      obtain ⟨nm, bs, mro, ns, qn, hd, sn, sub, ab, col, del⟩ := cd
      dsimp only at hm hdel hh
      subst hm hdel hh
      have hsl : sl = #[k0, k1, k2, k3, some (.builtin "ValueError.__new__"), k5] := by
        obtain ⟨l⟩ := sl
        simp only at hs
        rw [hs]
      subst hsl
      exact ⟨_, _, _, _, _, _, _, _, _, _, _, _, _, _, _, ho, ht⟩
    · cases q
  · cases q
end Cp
/-! Ce: errors of the program's own: raised, caught, kept in a name, asked. -/
namespace Cp
open PySem PySem.Spec PyProof.Rows L2
section
variable {X : Cx} {C : Addr} {bmB : List Value} {B newId initId : String}
/-- X(), made without arguments -/
theorem pmk_own0 {x : Str} {p pos : Pos} (F : ExcBaseFacts B newId initId bmB) (q : PySem.W.excIn X.K C bmB newId = true) (gC : X.mg x = some (.ref C)) (kC : PySem.W.keepIn X.K (.ref C) = true) (r : Raises X (.ref C)) (hg : Gl X x)
    (hdb : (x == ("__debug__" : Str)) = false := by decide) : PMk X (.Call (.Name x p) [] [] pos) (fun _ H Q => Q (.ref C) none H) := by
  intro pins s σ H Q I h
  refine wpAny_Call_Name_kw (ld_glob I hg gC ?_ hdb)
  refine PySem.W.callWith_K0 I.kIn kC ?_
  show wpAny _ _ (call (.ref C) []) _ _ _
  obtain ⟨bm, N, nm, qn, bs, hdct, sn, sub, ab, col, dd, k0, k1, k2, k3, k5, mN, hC, hN, hni, T⟩ := exc_obj I.kIn q
  refine wpAny_call_exc_subT F T hC hN hni (fun h' e hm => ?_) (Nat.zero_le _)
  exact mk_of I hm r h (I.hok.gone hm.new)
/-- raise X() -/
def sRaise (x : Str) : Sv := fun _ st => .er ⟨x, none⟩ st
end
/-- raise X(e): the value is data -/
def sRaise1 (x f : Str) (ma : En → Sto → Res (List Vl)) : Sv := fun ρ st => (ma ρ st).toS fun xs s => match xs with
  | [.d y] => .er ⟨x, some (f, y)⟩ s
  | _ => .no
/-! ### try: body, except x as n: suite, the error kept -/
theorem erO_ok {P : Program} {w : World} {H : Hp} {h : Heap} {a : Addr} {cls : Value} {d : Option Addr} {oe : Obj} {vs : Array Value} (he : h.get? a = some oe) (hz : Zc cls d oe) (hd : oe.data = .fields vs) : ObjOk P w H h a (erO a cls d) :=
  ⟨⟨oe, vs, he, hz, hd⟩, ⟨oe, he⟩, fun h1 h2 ⟨o, v, e1, e2, e3⟩ k => ⟨o, v, k _ e1, e2, e3⟩⟩
section
variable {X : Cx} {pins : List (Addr × Obj)} {σ : L2.St} {H : Hp} {sI s s' : Shared} {B : Heap}
/-- back on the ground, the error tracked -/
theorem landedT {a : Addr} {o : HO} (I : Inv X pins σ H sI) (nb : ∀ b o, sI.heap.get? b = some o → b ∉ frs X.stack → B.get? b = some o) (st : B.StaysIn s'.heap) (up : sI.heap.UpToSlots s'.heap) (os : s'.os = sI.os) (ag : AllBare s'.gens)
    (ha : sI.heap.get? a = none) (hn : H a = none) (new : ObjOk X.prog X.w (upd H a o) s'.heap a o) : Inv X pins σ (upd H a o) s' := by
  have nf : ∀ b ∈ frs X.stack, ∀ o, sI.heap.get? b = some o → ∃ sl, s'.heap.get? b = some { o with slots := sl } := fun b hb o e => by
    obtain ⟨_, o', e', hd⟩ := I.stack.mem hb
    rw [e] at e'; cases e'
    exact up b o e hd
  have na : ∀ {b o}, sI.heap.get? b = some o → b ≠ a := fun {b o} e z => by rw [z, ha] at e; cases e
  have J := I.call (ch := []) (h' := s'.heap) (g' := s'.gens) (t' := s'.toks) (d' := s'.drawn) (H' := upd H a o)
    ⟨fun b o e _ hb _ => st b o (nb b o e hb), fun b o e _ hb _ => nf b hb o e, fun b o e n _ => by rw [upd_ne (na e)]; exact n, fun b o e _ => by
      by_cases hb : b ∈ frs X.stack
      · obtain ⟨sl, q⟩ := nf b hb o e
        exact ⟨_, q⟩
      · exact ⟨o, st b o (nb b o e hb)⟩, fun _ _ e => by rw [upd_ne (ne_of_none e hn)]; exact e, fun _ _ _ e => by rw [upd_ne (ne_of_none e hn)]; exact e, fun b ps e => ⟨#[], by rw [upd_ne (ne_of_none e hn), e]; simp⟩⟩
    ((I.inGround nb).laidN st hn new) ag (fun _ z => nomatch z)
  obtain ⟨a1, a2, a3, a4, a5⟩ := s'
  have e5 : a5 = sI.os := os
  subst e5
  exact J
end
/-- which of the named classes an except clause takes -/
abbrev Cat := List (Str × Bool)
/-- try: .. except .. as n (slot i): suite -/
def sTry (i : Nat) (cat : Cat) (sb ss : Sv) : Sv := fun ρ st => match sb ρ st with
  | .er e s => match cat.lookup e.cls with
    | some true => match ss (ρ.set i (some (.o (.er e)))) s with
      | .nx ρ' s' => .nx (ρ'.set i none) s'
      | .bk ρ' s' => .bk (ρ'.set i none) s'
      | .ct ρ' s' => .ct (ρ'.set i none) s'
      | .rt r s' => .rt r s'
      | .er _ _ => .no
      | .no => .no
    | some false => .er e s
    | none => .no
  | r => r
section
variable {X : Cx} {C : Cn} {k : Nat} {x n : Str} {i : Nat} {b : Stmt} {suite : List Stmt} {b₀ : Stmt} {np pos pos' : Pos} {sb ss : Sv} {cat : Cat}
/-- try: .. except ..: suite -/
def sTryN (cat : Cat) (sb ss : Sv) : Sv := fun ρ st => match sb ρ st with
  | .er e s => match cat.lookup e.cls with
    | some true => match ss ρ s with
      | .er _ _ => .no
      | r => r
    | some false => .er e s
    | none => .no
  | r => r
end
end Cp
/-! Ci: what is asked of a caught error that a name holds: isinstance, its field, is None. -/
namespace Cp
open PySem PySem.Spec PyProof.Rows L2
section
variable {X : Cx} {C : Cn} {a b : Expr} {ma mb : Ev} {p p2 pos : Pos} {x y f : Str}
/-- the error at a, in the heap -/
theorem er_inst {pins : List (Addr × Obj)} {σ : L2.St} {H : Hp} {s : Shared} {a D : Addr} {e : Option (Str × PyData)} {F : Hp} {dd : Option Addr} {K : Kw} (I : Inv X pins σ H s) (ha : H a = some (erO a (.ref D) dd)) (sub : Same F H) (hd : ErD K F e dd) :
    ∃ ox od, PySem.W.InstAt s.heap a ox D od := by
  have ok : ObjOk X.prog X.w H s.heap a (.ext fun h => ∃ oe vs, h.get? a = some oe ∧ Zc (.ref D) dd oe ∧ oe.data = .fields vs) := I.hok a _ ha
  obtain ⟨⟨oe, vs, h1, h2, h3⟩, _⟩ := ok
  have nc : PySem.W.notCls oe = true := by unfold PySem.W.notCls; rw [h3] <;> rfl
  cases e with
  | none =>
    have hd : dd = none := hd
    subst hd
    exact ⟨oe, none, h1, h2.1, nc, by rw [h2.2]; trivial⟩
  | some fx =>
    obtain ⟨f, y⟩ := fx
    obtain ⟨d, v, rfl, e2, e3⟩ := hd
    have hx : ObjOk X.prog X.w H s.heap d (.xd [(f, v)]) := I.hok d _ (sub _ _ e2)
    obtain ⟨mA, hns, hr⟩ := hx
    obtain ⟨od, ho, hl⟩ := lookIn_ns hns
    exact ⟨oe, some od, h1, h2.1, nc, by rw [h2.2]; exact ho⟩
/-- isinstance(v, c): v an error of ours -/
def rIsO (K : PySem.W.Frag) : List V → Hp → VK → Prop := fun xs H Q => ∃ (KK : Kw) (a D cc : Addr) (dd : Option Addr) (e : Option (Str × PyData)) (F : Hp) (b : Bool), xs = [.ref a, .ref cc] ∧ H a = some (erO a (.ref D) dd) ∧ Same F H ∧ ErD KK F e dd ∧ ErrC K D ∧ PySem.W.kitOne K (.ref D) (.ref cc) = some b ∧ Q (.bl b) H
theorem kitx_er {K : PySem.W.Frag} {a D : Addr} {ox : Obj} {od : Option Obj} (T : ErrC K D) : PySem.W.KitX K (.ref a) (.ref D) (fun h => PySem.W.InstAt h a ox D od) :=
  PySem.W.kitx_exc T.cl T.ga T.gt T.su T.kc T.sp T.tk T.mr
theorem call_isO : CallR X (.builtin "isinstance") (rIsO X.K) := by
  intro pins s σ H xs us Q I r h
  obtain ⟨KK, a, D, cc, dd, e, F, b, rfl, ha, sub, hd, T, hk, q⟩ := h
  obtain ⟨u1, u2, rfl, r1, r2⟩ := vals2 r
  cases (show u1 = Value.ref a from r1)
  cases (show u2 = Value.ref cc from r2)
  obtain ⟨ox, od, J⟩ := er_inst I ha sub hd
  exact PySem.W.kia_one (kitx_er T) I.kIn J hk (fun z => nomatch z) fun tk => ⟨.bl b, H, I.tok tk, rfl, q⟩
/-- isinstance(e, Y), isinstance(e, (Y, Z)): an error by its class, None is none -/
def mIsE (cat : Cat) (ma : Ev) : Ev := fun ρ st => (mV ma ρ st).bind fun x s => match x with
  | .o (.er e) => match cat.lookup e.cls with
    | some k => .ok (.d (.bool k)) s
    | none => .no
  | .d .none => .ok (.d (.bool false)) s
  | _ => .no
/-- e.f -/
def mErF (zs : List Str) (f : Str) (ma : Ev) : Ev := fun ρ st => (mV ma ρ st).bind fun x s => match x with
  | .o (.er ⟨c, some (g, y)⟩) => if g = f ∧ c ∈ zs then .ok (.d y) s else .no
  | _ => .no
end
end Cp
namespace Cp
open PySem PySem.Spec PyProof.Rows L2
theorem cat_nil {P : Str → Bool → Prop} : ∀ y v, ([] : Cat).lookup y = some v → P y v := fun _ _ h => by cases h
theorem cat_cons {P : Str → Bool → Prop} {a : Str} {b : Bool} {r : Cat} (h : P a b) (hr : ∀ y v, r.lookup y = some v → P y v) : ∀ y v, ((a, b) :: r : Cat).lookup y = some v → P y v := fun y v e => by
  by_cases q : y = a
  · subst q
    simp [List.lookup] at e
    subst e; exact h
  · have q2 : (y == a) = false := by simpa using q
    simp [List.lookup, q2] at e
    exact hr y v e
theorem zs_nil {P : Str → Prop} : ∀ z, z ∈ ([] : List Str) → P z := fun _ h => nomatch h
theorem zs_cons {P : Str → Prop} {a : Str} {r : List Str} (h : P a) (hr : ∀ z, z ∈ r → P z) : ∀ z, z ∈ a :: r → P z := fun q m => (List.mem_cons.mp m).elim (fun e => e ▸ h) (hr q)
section
variable {X : Cx} {C : Cn} {a b : Expr} {ma mb : Ev} {p p2 pos : Pos}
/-- is None, is not None, of a name that may hold an error -/
def mIsNn (neg : Bool) (ma : Ev) : En → Sto → Res Bool := fun ρ st => (mV ma ρ st).bind fun x s => match x with
  | .o (.er _) => .ok neg s
  | .d d => .ok (xor neg (isNone d)) s
  | _ => .no
end
end Cp
/-! Cf_value: an own error made with one value, kept as its field value. -/
namespace Cfvalue
open PySem PySem.W PySem.Calls PyProof.Rows PySem.HandSPX
def iA (p1 p2 : Pos) : Arguments := { posonlyargs := [], args := [{ arg := "self", annotation := none, pos := p1 }, { arg := "value", annotation := none, pos := p2 }], vararg := none, kwonlyargs := [], kw_defaults := [], kwarg := none, defaults := [] }
def iB (q1 q2 q3 q4 : Pos) : List Stmt := [.Assign [.Attribute (.Name "self" q1) "value" q2] (.Name "value" q3) q4]
def iS : Scope := { kind := .function, names := [(PySem.Str.ofString "self", .local), (PySem.Str.ofString "value", .local)], isGenerator := false, isCoroutine := false, more := [] }
/-- what the written part says of the class at C, and of its __init__, at fI -/
structure Txt (K : Frag) (C fI : Addr) (ql : Str) : Prop where
  cls : ∃ nm q N bs bm sn sub ab col dd k0 k1 k2 k3 k5, K.lookup C = some (excClassObj nm q C N bs bm true sn sub ab col dd k0 k1 k2 k3 k5 "ValueError.__new__") ∧ refsVE bm = true
  sa : findIn K (.ref C) "__setattr__" = some (some (.builtin "object.__setattr__"))
  noN : findIn K (.ref C) "value" = some none
  iC : findIn K (.ref C) "__init__" = some (some (.ref fI))
  tC : typeIn K (.ref fI) = some (.type "function")
  kC : keepIn K (.ref C) = true
  exC : subIn K (.ref C) (.type "BaseException") = some true
  tyC : typeIn K (.ref C) = some (.type "type")
  fn : ∃ (oc : Value) (od : Option Addr) (kV doc pm : Value) (an : Option Addr) (cdv ct : Value) (osl : Array (Option Value)) (p1 p2 q1 q2 q3 q4 : Pos),
    K.lookup fI = some ⟨oc, od, .func (fnOf "__init__" ql (iA p1 p2) (iB q1 q2 q3 q4) iS .none kV doc pm an cdv ct), osl⟩ ∧ codeIn K cdv ql = true
def txtB (x : Str) : Cp.Fb := fun K => Cp.exObjB x K && (He.eqO (findIn K (.ref (He.ga K x)) "__setattr__") (some (some (.builtin "object.__setattr__"))) && (He.eqO (findIn K (.ref (He.ga K x)) "value") (some none) && (He.eqO (findIn K (.ref (He.ga K x)) "__init__") (some (some (.ref (He.ma K (He.ga K x) "__init__")))) &&
  (decide (typeIn K (.ref (He.ma K (He.ga K x) "__init__")) = some (.type "function")) && (keepIn K (.ref (He.ga K x)) && (decide (subIn K (.ref (He.ga K x)) (.type "BaseException") = some true) && decide (typeIn K (.ref (He.ga K x)) = some (.type "type"))))))))
theorem txt_ok {K : Frag} {x ql : Str} {p1 p2 q1 q2 q3 q4 : Pos} {fd : FuncData} (h : txtB x K = true) (F : L2.FunD K "__init__" ql (iA p1 p2) (iB q1 q2 q3 q4) iS [] [] (He.ma K (He.ga K x) "__init__") fd) : Txt K (He.ga K x) (He.ma K (He.ga K x) "__init__") ql := by
  obtain ⟨h1, h⟩ := He.ba h
  obtain ⟨h2, h⟩ := He.ba h
  obtain ⟨h3, h⟩ := He.ba h
  obtain ⟨h4, h⟩ := He.ba h
  obtain ⟨h5, h⟩ := He.ba h
  obtain ⟨h6, h⟩ := He.ba h
  obtain ⟨h7, h8⟩ := He.ba h
  obtain ⟨oc, od, dV, kV, doc, pm, an, cdv, ct, osl, rfl, lk, hcd, hd, _⟩ := F.ex
  have ed : dV = .none := by
    rcases hd with ⟨_, e⟩ | ⟨e, _⟩
    · exact e
    · exact absurd rfl e
  subst ed
  exact ⟨Cp.exObjB_ok h1, He.eqO_ok h2, He.eqO_ok h3, He.eqO_ok h4, of_decide_eq_true h5, h6, of_decide_eq_true h7, of_decide_eq_true h8, oc, od, kV, doc, pm, an, cdv, ct, osl, p1, p2, q1, q2, q3, q4, lk, hcd⟩
theorem one_size (v : Value) : [v].length ≤ sizeLine := by
  rw [sizeLine_eq]
  exact (by decide : 1 ≤ 16777216)
theorem ldC {M : Model} {s : Shared} {name : Str} {scope : Scope} {L a : Addr} {cd : Value} {m : Str → Option Value} {x : Str} {pos : Pos} {v : Value} {Q : Value → Shared → Prop} {A : Around} {E : Value → Shared → Prop} (hn : s.heap.Ns L m) (hv : m x = some v) (h : Q v s)
    (hk : scope.kind = .function := by rfl) (hl : (envOfC name scope L a cd).kindOf x = some .local := by rfl) (hd : (x == ("__debug__" : Str)) = false := by decide) :
    wpAny M A (eval (.Name x pos) (envOfC name scope L a cd)) Q E s := wpAny_Name (wpAny_loadName_local hk hl hn hv h) hd
structure InitEnd (h h' : Heap) (x C dx t1 : Addr) (v : Value) : Prop where
  keep : ∀ b o, b ≠ x → h.get? b = some o → h'.get? b = some o
  obj : h'.get? x = some { cls := .ref C, dict := some dx, data := .fields #[.ref t1, .none, .none, .none, .bool false, .none] }
  dbig : h.objs.size ≤ dx
  dne : dx ≠ x
  ns : h'.Ns1 dx (fun y => if y = "value" then some v else none)
structure OwnMade (h h' : Heap) (e C d : Addr) (v : Value) : Prop where
  keep : ∀ b o, h.get? b = some o → h'.get? b = some o
  new : h.objs.size ≤ e
  obj : ∃ oe vs, h'.get? e = some oe ∧ oe.cls = .ref C ∧ oe.dict = some d ∧ oe.data = .fields vs ∧ vs[1]? = some .none
  dbig : h.objs.size ≤ d
  dne : d ≠ e
  ns : h'.Ns1 d (fun y => if y = "value" then some v else none)
section
variable {prog : Program} {w : World} {A : Around} {E : Value → Shared → Prop} {R : Result → Shared → Prop} {s : Shared} {K : Frag} {C fI : Addr} {ql : Str}
theorem init (T : Txt K C fI ql) {x t0 : Addr} {v : Value} (X : K.In s.heap) (hlim : s.heap.NoLimit) (hx : s.heap.get? x = some (excO C t0)) (hnx : K.lookup x = none) (hroom : A.depth < recursionLimit)
    (hq : ∀ h' tk dx, InitEnd s.heap h' x C dx t0 v → R (.ok (.ret .none)) { s with heap := h', toks := tk }) :
    codeAny (model prog w) A (.call (.ref fI) ⟨[.ref x, v], []⟩) R s := by
  obtain ⟨oc, od, kV, doc, pm, an, cdv, ct, osl, p1, p2, q1, q2, q3, q4, ho, hcd⟩ := T.fn
  obtain ⟨nm, q, N, bs, bm, sn, sub, ab, col, dd, k0, k1, k2, k3, k5, hC, hbm⟩ := T.cls
  have hcl : clsIn K C = some { name := nm, bases := bs, mro := .ref C :: bm, ns := N, qualname := q, hasDict := true, slotNames := sn, subclasses := sub, abstract := ab, collection := col, hasDel := false } := by unfold clsIn; rw [hC] <;> rfl
  refine Att.call_fn (binds := [("self", .ref x), ("value", v)]) X hlim ho hcd hroom (BindsTo.of_eq (by first | rfl | with_unfolding_all rfl)) (by first | rfl | decide | with_unfolding_all rfl) (fun s₁ IC => ?_) rfl rfl rfl
  obtain ⟨h₁, tk₁, rfl⟩ := IC.toInCall.same
  have k : ∀ b o, s.heap.get? b = some o → h₁.get? b = some o := IC.toInCall.keep
  have hn := IC.toInCall.ns
  have hxL : s.heap.objs.size ≠ x := Nat.ne_of_gt (Heap.lt_size hx)
  have X₁ : K.In h₁ := X.keeps k
  have hx₁ := k _ _ hx
  show wpAny _ _ (execs _ _) _ _ _
  refine wpAny_execs_cons (plainObj_wpAny_Assign_Attribute ?_)
  refine ldC (v := v) hn (by first | rfl | with_unfolding_all rfl | kernel_rfl) (ldC (v := .ref x) hn (by first | rfl | with_unfolding_all rfl | kernel_rfl) ?_)
  refine set_plain X₁ (ox := excO C t0) (od := none) ⟨hx₁, rfl, rfl, trivial⟩ T.sa ?_
  refine exc_osa X₁ hx₁ hcl (show refsVE (.ref C :: bm) = true from hbm) rfl T.noN (fun h₃ tk₃ dx k₃ dn dne hx₃ hn₃ => ?_)
  show wpAny _ _ (execs _ _) _ _ _
  have z : s.heap.objs.size < h₁.objs.size := hn.lt
  exact wpAny_execs_nil (hq h₃ tk₃ dx ⟨fun b o hb e => k₃ b o hb (k b o e), hx₃, Nat.le_of_lt (Nat.lt_of_lt_of_le z dn), dne, hn₃⟩)
theorem made (T : Txt K C fI ql) {v : Value} (X : K.In s.heap) (hlim : s.heap.NoLimit) (hroom : A.depth + 1 < recursionLimit)
    (hq : ∀ h' tk e d, OwnMade s.heap h' e C d v → R (.ok (.ret (.ref e))) { s with heap := h', toks := tk }) :
    codeAny (model prog w) A (.call (.ref C) ⟨[v], []⟩) R s := by
  obtain ⟨nm, q, N, bs, bm, sn, sub, ab, col, dd, k0, k1, k2, k3, k5, hC, hbm⟩ := T.cls
  obtain ⟨hp, g, dr, tk, os⟩ := s
  have k : ∀ b o, hp.get? b = some o → ((hp.push (kdv_tup [v])).push (excO C hp.objs.size)).get? b = some o := fun b o e => Heap.get?_push_of_some _ (Heap.get?_push_of_some _ e)
  have hget : ((hp.push (kdv_tup [v])).push (excO C hp.objs.size)).get? (hp.objs.size + 1) = some (excO C hp.objs.size) := by heap_get
  have hnx : K.lookup (hp.objs.size + 1) = none := by
    cases e : K.lookup (hp.objs.size + 1) with
    | none => rfl
    | some o =>
      have z : hp.get? (hp.objs.size + 1) = some o := X _ _ e
      exact absurd (Nat.lt_of_succ_lt (Heap.lt_size z)) (Nat.lt_irrefl _)
  refine call_own F.excBase_ValueError (fun X => refsVE_contains X bm hbm) (X _ _ hC) (looks_findIn X T.iC) (fun self => bind_fn X self T.tC) (one_size v) ?_
  refine init (s := ⟨(hp.push (kdv_tup [v])).push (excO C hp.objs.size), g, dr, tk, os⟩) T (X.keeps k) (hlim.keeps k) hget hnx ?_ fun h' tk' dx ⟨k', hx, dn, dne, hns⟩ => ?_
  · show A.depth + 1 < recursionLimit
    exact hroom
  · have old : ∀ b o, hp.get? b = some o → h'.get? b = some o := fun b o e => k' b o (Nat.ne_of_lt (Nat.lt_succ_of_lt (Heap.lt_size e))) (k b o e)
    have z : hp.objs.size + 1 + 1 ≤ dx := by
      first
        | (simpa only [Heap.size_push] using dn)
        | exact dn
        | (have q := dn; rw [Heap.size_push, Heap.size_push] at q; exact q)
    exact ⟨rfl, hq h' tk' (hp.objs.size + 1) dx ⟨old, Nat.le_succ _, ⟨_, _, hx, rfl, rfl, rfl, rfl⟩, Nat.le_trans (Nat.le_trans (Nat.le_succ _) (Nat.le_succ _)) z, dne, hns⟩⟩
end
end Cfvalue
namespace Cp
open PySem PySem.Spec PyProof.Rows L2
theorem relO_value {v : V} {v' : Value} (r : RelV v v') (f : Str) : RelO (List.lookup f [(("value" : Str), v)]) (if f = "value" then some v' else none) := by
  by_cases hw : f = "value"
  · subst hw
    rw [if_pos rfl]
    have q : List.lookup ("value" : Str) [(("value" : Str), v)] = some v := by simp [List.lookup]
    rw [q]
    exact r
  · rw [if_neg hw]
    have qw : (f == ("value" : Str)) = false := by simpa using hw
    have q2 : List.lookup f [(("value" : Str), v)] = none := by simp [List.lookup, qw]
    rw [q2]
    trivial
section
variable {X : Cx} {C fI : Addr} {ql x : Str}
def tMk_value (C : Addr) (ta : TA) : L2.St → Hp → XK → Prop := fun σ H Q => ta σ H fun vs H1 => ∃ v, vs = [v] ∧ ∀ d, H1 d = none → Q (.ref C) (some d) (upd H1 d (.xd [(("value" : Str), v)]))
theorem pmk_value {a : Expr} {ta : TA} {p pos : Pos} {k : Nat} (T : Cfvalue.Txt X.K C fI ql) (gC : X.mg x = some (.ref C)) (hr : Room k X.A) (ha : PA X [a] ta) (hg : Gl X x) (hdb : (x == ("__debug__" : Str)) = false := by decide)
    (he : starEach (a :: []) X.env = (false, eval a X.env) :: starEach [] X.env := by rfl) (hpl : (backTo pos (starEach [] X.env)).any (·.1) = false := by rfl) :
    PMk X (.Call (.Name x p) [a] [] pos) (tMk_value C ta) := by
  intro pins s σ H Q I h
  refine wpAny_Call_Name_kw (ld_glob I hg gC ?_ hdb)
  refine PySem.W.callWith_K (h₀ := X.base) I.ok.mod.kin T.kC (thn (ha.run pos pins s σ H _ I h) fun us s1 hh => ?_) he hpl
  obtain ⟨vs, H1, I1, r1, v, ev, q1⟩ := hh
  subst ev
  refine ⟨I1.kIn, ?_⟩
  cases r1 with
  | cons rv rn =>
    rename_i v' us'
    cases rn
    show wpAny _ _ (call (.ref C) [v']) _ _ _
    have hlim := I1.nolimit
    obtain ⟨hp, g, dr, tk, os⟩ := s1
    refine wpAny_call (Cfvalue.made T I1.kIn hlim (by have := hr.dp; omega) fun h' tk' e d M => ?_)
    show MkP X pins σ Q (.ref e) ⟨h', g, dr, tk', os⟩
    obtain ⟨oe, fv, hoe, hc, hd, hdat, h1⟩ := M.obj
    have hns := M.ns
    obtain ⟨G', g1, g2⟩ := restrict h' fun b => decide (b ≠ e)
    have gk : ∀ b, b ≠ e → G'.get? b = h'.get? b := fun b hb => g1 b (decide_eq_true hb)
    have ge : G'.get? e = none := g2 e (by simp)
    have old : ∀ b o, hp.get? b = some o → G'.get? b = some o := fun b o q => (gk b (Nat.ne_of_lt (Nat.lt_of_lt_of_le (Heap.lt_size q) M.new))).trans (M.keep b o q)
    have ob : ObjOk X.prog X.w (upd H1 d (.xd [(("value" : Str), v)])) G' d (.xd [(("value" : Str), v)]) :=
      ⟨_, hns.at (fun o q => (gk d M.dne).trans q), fun f => relO_value rv f⟩
    have J : Inv X pins σ (upd H1 d (.xd [(("value" : Str), v)])) ⟨G', g, dr, tk', os⟩ := I1.laid (t' := tk') old M.dbig ob
    refine ⟨e, oe, fv, ⟨G', g, dr, tk', os⟩, _, .ref C, some d, rfl, J, fun b o q => ?_, ge, hoe, ⟨hc, hd⟩, hdat, h1, ?_, rfl, I1.bare, raises_own T.exC T.tyC, q1 d (I1.hok.fresh M.dbig)⟩
    · by_cases hb : b = e
      · have q' : G'.get? b = some o := q
        rw [hb, ge] at q'; cases q'
      · exact (gk b hb).symm.trans q
    · rw [upd_ne (Ne.symm M.dne)]
      exact I1.hok.fresh M.new
end
end Cp
/-! Cx: weakest preconditions of errors, tries, whiles, dicts. -/
namespace Cp
open PySem L2
section
variable {E : Er → Sto → Prop} {st : Sto} {ρ : En} {N B C : En → Sto → Prop} {R : Rv → Sto → Prop} {PE : Rv → Sto → Prop} {PB : Bool → Sto → Prop} {ma mb mc : Ev} {mas : En → Sto → Res (List Vl)} {cat : Cat}
@[simp] theorem W_sRaise (x : Str) : WSe E (sRaise x ρ st) N B C R = E ⟨x, none⟩ st := rfl
@[simp] theorem W_sRaise1 (x f : Str) : WSe E (sRaise1 x f mas ρ st) N B C R = WVe E (mas ρ st) fun xs s => match xs with
    | [.d y] => E ⟨x, some (f, y)⟩ s
    | _ => False := by
  unfold sRaise1; rw [WS_toS]
  congr 1; funext xs s
  cases xs with
  | nil => rfl
  | cons x r => cases r with
    | nil => cases x <;> rfl
    | cons y r => cases x <;> rfl
@[simp] theorem W_sTry (i : Nat) (sb ss : Sv) : WSe E (sTry i cat sb ss ρ st) N B C R = WSe (fun e s => match cat.lookup e.cls with
    | some true => WSe noE (ss (ρ.set i (some (.o (.er e)))) s) (fun ρ' s' => N (ρ'.set i none) s') (fun ρ' s' => B (ρ'.set i none) s') (fun ρ' s' => C (ρ'.set i none) s') R
    | some false => E e s
    | none => False) (sb ρ st) N B C R := by
  unfold sTry
  cases sb ρ st with
  | er e s =>
    show WSe E (match cat.lookup e.cls with
      | some true => _
      | some false => .er e s
      | none => .no) N B C R = match cat.lookup e.cls with
      | some true => _
      | some false => E e s
      | none => False
    cases cat.lookup e.cls with
    | none => rfl
    | some v =>
      cases v with
      | false => rfl
      | true => dsimp only; cases ss (ρ.set i (some (.o (.er e)))) s <;> rfl
  | _ => rfl
@[simp] theorem W_sTryN (sb ss : Sv) : WSe E (sTryN cat sb ss ρ st) N B C R = WSe (fun e s => match cat.lookup e.cls with
    | some true => WSe noE (ss ρ s) N B C R
    | some false => E e s
    | none => False) (sb ρ st) N B C R := by
  unfold sTryN
  cases sb ρ st with
  | er e s =>
    show WSe E (match cat.lookup e.cls with
      | some true => _
      | some false => .er e s
      | none => .no) N B C R = match cat.lookup e.cls with
      | some true => _
      | some false => E e s
      | none => False
    cases cat.lookup e.cls with
    | none => rfl
    | some v =>
      cases v with
      | false => rfl
      | true => dsimp only; cases ss ρ s <;> rfl
  | _ => rfl
@[simp] theorem W_mIsE : WVe E (mIsE cat ma ρ st) PE = WVe E (ma ρ st) fun r s => match frz r with
    | .o (.er e) => WO (cat.lookup e.cls) fun k => PE (.d (.bool k)) s
    | .d .none => PE (.d (.bool false)) s
    | _ => False := by
  unfold mIsE; rw [WV_bind, W_mV]
  congr 1; funext r s
  generalize frz r = v
  cases v with
  | o o =>
    cases o with
    | er e => dsimp only; cases cat.lookup e.cls <;> rfl
    | _ => rfl
  | d d => cases d <;> rfl
  | _ => rfl
@[simp] theorem W_mErF (zs : List Str) (f : Str) : WVe E (mErF zs f ma ρ st) PE = WVe E (ma ρ st) fun r s => match frz r with
    | .o (.er ⟨c, some (g, y)⟩) => (g = f ∧ c ∈ zs) ∧ PE (.d y) s
    | _ => False := by
  unfold mErF; rw [WV_bind, W_mV]
  congr 1; funext r s
  generalize frz r = v
  cases v with
  | o o =>
    cases o with
    | er e =>
      obtain ⟨c, a⟩ := e
      cases a with
      | none => rfl
      | some p =>
        obtain ⟨g, y⟩ := p
        dsimp only
        by_cases h : g = f ∧ c ∈ zs
        · rw [if_pos h]; exact propext ⟨fun z => ⟨h, z⟩, fun z => z.2⟩
        · rw [if_neg h]; exact propext ⟨fun z => False.elim z, fun z => absurd z.1 h⟩
    | _ => rfl
  | _ => rfl
@[simp] theorem W_mIsNn (neg : Bool) : WVe E (mIsNn neg ma ρ st) PB = WVe E (ma ρ st) fun r s => match frz r with
    | .o (.er _) => PB neg s
    | .d d => PB (xor neg (isNone d)) s
    | _ => False := by
  unfold mIsNn; rw [WV_bind, W_mV]
  congr 1; funext r s
  generalize frz r = v
  cases v with
  | o o => cases o <;> rfl
  | _ => rfl
/-! ### dicts -/
@[simp] theorem W_mD0 : WVe E (mD0 ρ st) PE = PE (.n (.m [])) st := rfl
@[simp] theorem W_mPairs_nil {PA : List (PyData × PyData) → Sto → Prop} : WVe E (mPairs [] ρ st) PA = PA [] st := rfl
@[simp] theorem W_mPairs_cons {mk mv : Ev} {r : List (Ev × Ev)} {PA : List (PyData × PyData) → Sto → Prop} : WVe E (mPairs ((mk, mv) :: r) ρ st) PA = WVe E (mk ρ st) fun x s1 => WVe E (mv ρ s1) fun y s2 => match frz x, frz y with
    | .d a, .d b => WVe E (mPairs r ρ s2) fun kvs s3 => PA ((a, b) :: kvs) s3
    | _, _ => False := by
  rw [mPairs, WV_bind, W_mV]
  congr 1; funext x s1; rw [WV_bind, W_mV]
  congr 1; funext y s2
  generalize frz x = x
  generalize frz y = y
  cases x with
  | d a => cases y with
    | d b => dsimp only; rw [WV_bind]; rfl
    | _ => rfl
  | _ => rfl
@[simp] theorem W_mDct (prs : List (Ev × Ev)) : WVe E (mDct prs ρ st) PE = WVe E (mPairs prs ρ st) fun kvs s => ((keysD kvs).isSome = true ∧ kvs.length ≤ 15) ∧ PE (.n (.m kvs)) s := by
  unfold mDct; rw [WV_bind]
  congr 1; funext kvs s
  by_cases h : (keysD kvs).isSome = true ∧ kvs.length ≤ 15
  · rw [if_pos h]; exact propext ⟨fun z => ⟨h, z⟩, fun z => z.2⟩
  · rw [if_neg h]; exact propext ⟨fun z => False.elim z, fun z => absurd z.1 h⟩
@[simp] theorem flK_nil : flK [] = true := rfl
@[simp] theorem flK_str (x : Str) (d : PyData) (r : List (PyData × PyData)) : flK ((.str x, d) :: r) = flK r := rfl
@[simp] theorem flK_int (x : Int) (d : PyData) (r : List (PyData × PyData)) : flK ((.int x, d) :: r) = flK r := rfl
@[simp] theorem vRv_eq (x : Vl) : vRv x = Rv.of x := by cases x <;> rfl
@[simp] theorem W_mDGet2 : WVe E (mDGet2 ma mb mc ρ st) PE = WVe E (ma ρ st) fun r1 s1 => match view s1 (frz r1) with
    | some (.dict kvs0) => flK kvs0 = true ∧ WVe E (mb ρ s1) fun r2 s2 => WVe E (mc ρ s2) fun r3 s3 => (match view s3 (frz r1), frz r2 with
      | some (.dict kvs), .d y => flK kvs = true ∧ (keyD y).isSome = true ∧ (match lookK kvs y with
        | some v => PE (.d v) s3
        | none => PE (Rv.of (frz r3)) s3)
      | _, _ => False)
    | _ => False := by
  unfold mDGet2; rw [WV_bind, W_mV]
  congr 1; funext r1 s1
  cases view s1 (frz r1) with
  | none => rfl
  | some d =>
    cases d with
    | dict kvs0 =>
      dsimp only
      by_cases hf0 : flK kvs0 = true
      case neg => rw [if_neg hf0]; exact propext ⟨fun z => False.elim z, fun z => absurd z.1 hf0⟩
      rw [if_pos hf0, and_iff_right hf0, WV_bind, W_mV]
      congr 1; funext r2 s2; rw [WV_bind, W_mV]
      congr 1; funext r3 s3
      generalize frz r2 = y
      cases view s3 (frz r1) with
      | none => rfl
      | some d =>
        cases d with
        | dict kvs =>
          cases y with
          | d y =>
            dsimp only
            by_cases hf : flK kvs = true
            case neg => rw [if_neg hf]; exact propext ⟨fun z => False.elim z, fun z => absurd z.1 hf⟩
            rw [if_pos hf, and_iff_right hf]
            by_cases h : (keyD y).isSome = true
            · rw [if_pos h]
              cases lookK kvs y with
              | none => rw [vRv_eq]; exact propext ⟨fun z => ⟨h, z⟩, fun z => z.2⟩
              | some v => exact propext ⟨fun z => ⟨h, z⟩, fun z => z.2⟩
            · rw [if_neg h]; exact propext ⟨fun z => False.elim z, fun z => absurd z.1 h⟩
          | _ => rfl
        | _ => rfl
    | _ => rfl
/-! ### while -/
end
end Cp
/-! Cy: a dict from texts to defs, and the call of what it holds. -/
namespace Cp
open PySem PySem.Spec PyProof.Rows L2
section
variable {X : Cx} {C : Cn} {k j : Nat} {p pos pos1 : Pos} {d e : Expr} {es : List Expr} {md mk : Ev} {mas : En → Sto → Res (List Vl)} {keys : List (Option Expr)} {values : List Expr}
abbrev fnW (K : PySem.W.Frag) (tbl : List (Str × Str)) : List (Key × V) := tbl.map fun p => (.inr p.1, .ref (He.ga K p.2))
end
end Cp
/-! Cz: names written from a list's items. -/
namespace Cp
open PySem PySem.Spec PyProof.Rows L2
section
variable {X : Cx} {C : Cn} {es : List Expr} {pos : Pos}
/-- (a, b, ..) = a list of that length -/
def gTl (n : Nat) (r : Gms) : Gm := fun x ρ st => match x with
  | .d (.list ds) => if ds.length = n then r ds ρ st else .no
  | _ => .no
@[simp] theorem W_gTl {E : Er → Sto → Prop} {ρ : En} {st : Sto} {PR : En → Sto → Prop} (n : Nat) (r : Gms) (ds : List PyData) : WVe E (gTl n r (.d (.list ds)) ρ st) PR = (ds.length = n ∧ WVe E (r ds ρ st) PR) := by
  unfold gTl
  by_cases h : ds.length = n <;> simp [h]
end
end Cp
/-! Cg: a tuple turned round, t[::-1]. -/
namespace Cp
open PySem PySem.Spec PyProof.Rows L2
section
variable {X : Cx} {C : Cn} {a : Expr} {ma : Ev} {p1 p2 p3 pos : Pos}
/-- what is never reached -/
def mNo : Ev := fun _ _ => .no
def mTurn (ma : Ev) : Ev := fun ρ st => (mV ma ρ st).bind fun x s => match x with
  | .d (.tuple ds) => .ok (.d (.tuple ds.reverse)) s
  | .d (.list ds) => .ok (.n (.l ds.reverse)) s
  | _ => .no
end
section
variable {E : Er → Sto → Prop} {ρ : En} {st : Sto} {PE : Rv → Sto → Prop} {ma : Ev}
@[simp] theorem W_mNo : WVe E (mNo ρ st) PE = False := rfl
@[simp] theorem W_mTurn : WVe E (mTurn ma ρ st) PE = WVe E (ma ρ st) fun r s => match frz r with
    | .d (.tuple ds) => PE (.d (.tuple ds.reverse)) s
    | .d (.list ds) => PE (.n (.l ds.reverse)) s
    | _ => False := by
  unfold mTurn; rw [WV_bind, W_mV]
  congr 1; funext r s
  cases frz r with
  | d x => cases x <;> rfl
  | c _ => rfl
  | s _ => rfl
  | o _ => rfl
end
end Cp
/-! Cn: tuples and tables of the module, name += e. -/
namespace Cp
open PySem L2
/-! ### a tuple of texts of the module, on the right of in -/
section
variable {X : Cx} {C : Cn} {Q : VK} {μ : Mu} {F H : Hp} {st : Sto} {e : Expr} {ma mb : Ev} {pos p : Pos} {x : Str} {zs : List Str}
/-! ### name += e, of ints -/
def sAugI (i : Nat) (ma : Ev) : Sv := fun ρ st => match ρ[i]? with
  | some (some (.d (.int a))) => (mV ma ρ st).toS fun y s => match y with
    | .d (.int b) => .nx (ρ.set i (some (.d (.int (a + b))))) s
    | _ => .no
  | _ => .no
variable {E : Er → Sto → Prop} {ρ : En} {N B K : En → Sto → Prop} {R : Rv → Sto → Prop}
@[simp] theorem W_sAugI (i : Nat) : WSe E (sAugI i ma ρ st) N B K R = (match ρ[i]? with
    | some (some (.d (.int a))) => WVe E (ma ρ st) fun y s => (match frz y with
      | .d (.int b) => N (ρ.set i (some (.d (.int (a + b))))) s
      | _ => False)
    | _ => False) := by
  unfold sAugI
  split
  · rw [WS_toS, W_mV]
    congr 1; funext y s
    split <;> simp_all
  · rename_i h
    rfl
end
/-! ### a table of the module: texts to ints; .get of it -/
def mTabG (kvs : List (Str × Int)) (ma : Ev) : Ev := fun ρ st => (mV ma ρ st).bind fun y s => match y with
  | .d (.str z) => .ok (.d (match kvs.lookup z with
    | some i => .int i
    | none => .none)) s
  | _ => .no
section
variable {X : Cx} {C : Cn} {e : Expr} {ma : Ev} {apos cpos p : Pos} {x : Str} {kvs : List (Str × Int)}
variable {E : Er → Sto → Prop} {ρ : En} {st : Sto} {PE' : Rv → Sto → Prop}
@[simp] theorem W_mTabG : WVe E (mTabG kvs ma ρ st) PE' = WVe E (ma ρ st) fun r s => (match frz r with
    | .d (.str z) => PE' (.d (match kvs.lookup z with
      | some i => .int i
      | none => .none)) s
    | _ => False) := by
  unfold mTabG; rw [WV_bind, W_mV]
  congr 1; funext y s
  split <;> simp_all
end
/-! ### the head's own look, with tables -/
abbrev AlX : Type := He.AlD × List (Option (List (Option (Str × Int))))
def obsXT (fb : List Fb) (fn : List He.DefD) (ts : List He.Tab) (K : PySem.W.Frag) : AlX := (obsX fb fn K, ts.map fun t => He.dicW K (t.1 K))
def valXT (fn : List He.DefD) (ts : List He.Tab) (w : World) : AlX := (He.valD fn, ts.map fun t => some (He.keysIn w.params t.2))
def SaysXT (fb : List Fb) (fn : List He.DefD) (ts : List He.Tab) (w : World) (K : PySem.W.Frag) : Prop := obsXT fb fn ts K = valXT fn ts w
def sysB : Fb := fun K => match K.lookup sysModules with
  | some ⟨_, _, .dict _ _, _⟩ => true
  | _ => false
theorem sysB_ok {K : PySem.W.Frag} (h : sysB K = true) : SysK K := by
  unfold sysB at h
  cases q : K.lookup sysModules with
  | none => rw [q] at h; cases h
  | some o =>
    rw [q] at h
    obtain ⟨oc, od, dt, osl⟩ := o
    cases dt with
    | dict es n => exact ⟨_, es, n, q, rfl⟩
    | _ => cases h
def obsXTG (n : Nat) (fb : List Fb) (fn : List He.DefD) (ts : List He.Tab) (g : Addr → Option Obj) : AlX := obsXT fb fn ts (He.frG g (sysModules :: He.asD g n))
def hookXT (n : Nat) (fb : List Fb) (fn : List He.DefD) (ts : List He.Tab) : PySem.W.Hook where
  α := AlX
  obs := fun s => obsXTG n fb fn ts s.heap.get?
  val := fun w => valXT fn ts w
  says := fun w h => ∃ K : PySem.W.Frag, K.In h ∧ SaysXT fb fn ts w K
  of := fun _ _ e => ⟨_, He.frG_in, e⟩
  keeps := fun _ _ _ ⟨K, hK, c⟩ k => ⟨K, PySem.W.Frag.In.keeps hK k, c⟩
theorem obsXTG_eq {n : Nat} {fb : List Fb} {fn : List He.DefD} {ts : List He.Tab} {g : Addr → Option Obj} {s : Shared} (h : ∀ a, g a = s.heap.get? a) : obsXTG n fb fn ts g = (hookXT n fb fn ts).obs s := by
  have e : g = s.heap.get? := funext h
  rw [e] <;> rfl
section
variable {fb : List Fb} {fn : List He.DefD} {ts : List He.Tab} {w : World} {K : PySem.W.Frag}
theorem SaysXT.x (c : SaysXT fb fn ts w K) : SaysX fb fn K := congrArg (fun z : AlX => z.1) c
end
end Cp
/-! Dd: dicts, their keys ints and texts or tuples: in, d[k], d[k] = v. -/
namespace Cp
open PySem L2
def gnD (d : PyData) : Bool := match d with
  | .tuple xs => (match keysN xs with
    | some ks => decide ((NestedKey.tup ks).depth ≤ 8)
    | none => false)
  | _ => false
def gnK (kvs : List (PyData × PyData)) : Bool := kvs.all fun p => gnD p.1
def okK (kvs : List (PyData × PyData)) (k : PyData) : Bool := (flK kvs && (keyD k).isSome) || (gnK kvs && gnD k)
def keyE (a b : PyData) : Bool := decide (keyN a = keyN b)
def lookD : List (PyData × PyData) → PyData → Option PyData
  | [], _ => none
  | (j, v) :: r, k => if keyE j k then some v else lookD r k
def putD (kvs : List (PyData × PyData)) (k v : PyData) : List (PyData × PyData) :=
  if (kvs.any fun p => keyE p.1 k) = true then kvs.map (fun p => if keyE p.1 k = true then (p.1, v) else p) else kvs ++ [(k, v)]
/-! ### in the heap -/
section
variable {X : Cx}
def gInD (neg : Bool) (a b : PyData) : Option Bool := match b with
  | .dict kvs => if okK kvs a = true then some (if neg then !(lookD kvs a).isSome else (lookD kvs a).isSome) else none
  | _ => none
variable {C : Cn} {neg : Bool}
variable {a b : Expr} {ma mb : Ev} {pos : Pos} {k : Nat}
/-! ### d[k] -/
def fDix (a b : PyData) : Option Rv := match a with
  | .dict kvs => if okK kvs b = true then (lookD kvs b).map .d else none
  | _ => none
variable {o i : Expr} {mo mi : Ev}
/-! ### d[k] = v -/
def sDput (mo mk mv : Ev) : Sv := fun ρ st => (mV mv ρ st).toS fun x s1 => (mV mo ρ s1).toS fun y s2 => (mV mk ρ s2).toS fun z s3 => match x, y, z with
  | .d x, .c i, .d k => (match s3[i]? with
    | some (.m kvs) => if okK kvs k = true ∧ kvs.length < sizeLine then .nx ρ (s3.set i (.m (putD kvs k x))) else .no
    | _ => .no)
  | _, _, _ => .no
variable {value : Expr} {mv : Ev} {pos' : Pos}
variable {E : Er → Sto → Prop} {ρ : En} {st : Sto} {N Bk Ct : En → Sto → Prop} {R : Rv → Sto → Prop}
@[simp] theorem W_sDput : WSe E (sDput mo mi mv ρ st) N Bk Ct R = WVe E (mv ρ st) fun x s1 => WVe E (mo ρ s1) fun y s2 => WVe E (mi ρ s2) fun z s3 => (match frz x, frz y, frz z with
    | .d x, .c i, .d k => (match s3[i]? with
      | some (.m kvs) => (okK kvs k = true ∧ kvs.length < sizeLine) ∧ N ρ (s3.set i (.m (putD kvs k x)))
      | _ => False)
    | _, _, _ => False) := by
  unfold sDput
  rw [WS_toS, W_mV]
  congr 1; funext x s1; rw [WS_toS, W_mV]
  congr 1; funext y s2; rw [WS_toS, W_mV]
  congr 1; funext z s3
  generalize frz x = x'
  generalize frz y = y'
  generalize frz z = z'
  cases x' <;> cases y' <;> cases z' <;> try rfl
  rename_i x i k
  dsimp only
  cases s3[i]? with
  | none => rfl
  | some c =>
    cases c with
    | l _ => rfl
    | m kvs =>
      dsimp only
      by_cases hh : okK kvs k = true ∧ kvs.length < sizeLine
      · rw [if_pos hh]; exact propext ⟨fun z => ⟨hh, z⟩, fun z => z.2⟩
      · rw [if_neg hh]; exact propext ⟨fun z => False.elim z, fun z => absurd z.1 hh⟩
@[simp] theorem fDix_d (kvs : List (PyData × PyData)) (k : PyData) : fDix (.dict kvs) k = if okK kvs k = true then (lookD kvs k).map .d else none := rfl
@[simp] theorem gInD_d (neg : Bool) (a : PyData) (kvs : List (PyData × PyData)) : gInD neg a (.dict kvs) = if okK kvs a = true then some (if neg then !(lookD kvs a).isSome else (lookD kvs a).isSome) else none := rfl
end
end Cp
/-! De: d.update(d2), sorted(d) of flat dicts. -/
namespace Cp
open PySem L2
/-! ### d.update(d2), flat keys -/
def mergeD (kvs lvs : List (PyData × PyData)) : List (PyData × PyData) := lvs.foldl (fun acc p => putD acc p.1 p.2) kvs
section
variable {X : Cx} {C : Cn} {o e a : Expr} {mo ma : Ev} {apos cpos pos p : Pos}
def mUpd (mo ma : Ev) : Ev := fun ρ st => (mV mo ρ st).bind fun x s1 => match view s1 x with
  | some (.dict kvs0) => if flK kvs0 = true then (mV ma ρ s1).bind fun y s2 => match x, y with
    | .c i, .d (.dict lvs) => (match s2[i]? with
      | some (.m kvs) => if flK kvs = true ∧ flK lvs = true ∧ isGone (.m kvs) = false ∧ kvs.length + lvs.length ≤ sizeLine then .ok (.d .none) (s2.set i (.m (mergeD kvs lvs))) else .no
      | _ => .no)
    | _, _ => .no else .no
  | _ => .no
variable {E : Er → Sto → Prop} {ρ : En} {st : Sto} {PE' : Rv → Sto → Prop}
@[simp] theorem W_mUpd : WVe E (mUpd mo ma ρ st) PE' = WVe E (mo ρ st) fun x s1 => (match view s1 (frz x) with
    | some (.dict kvs0) => flK kvs0 = true ∧ WVe E (ma ρ s1) fun y s2 => (match frz x, frz y with
      | .c i, .d (.dict lvs) => (match s2[i]? with
        | some (.m kvs) => (flK kvs = true ∧ flK lvs = true ∧ isGone (.m kvs) = false ∧ kvs.length + lvs.length ≤ sizeLine) ∧ PE' (.d .none) (s2.set i (.m (mergeD kvs lvs)))
        | _ => False)
      | _, _ => False)
    | _ => False) := by
  unfold mUpd; rw [WV_bind, W_mV]
  congr 1; funext x s1
  generalize frz x = x'
  cases view s1 x' with
  | none => rfl
  | some d =>
    cases d with
    | dict kvs0 =>
      dsimp only
      by_cases hf0 : flK kvs0 = true
      case neg => rw [if_neg hf0]; exact propext ⟨fun z => False.elim z, fun z => absurd z.1 hf0⟩
      rw [if_pos hf0, and_iff_right hf0, WV_bind, W_mV]
      congr 1; funext y s2
      generalize frz y = y'
      cases x' with
      | c i =>
        cases y' with
        | d d =>
          cases d with
          | dict lvs =>
            dsimp only
            cases s2[i]? with
            | none => rfl
            | some c =>
              cases c with
              | l _ => rfl
              | m kvs =>
                dsimp only
                by_cases hh : flK kvs = true ∧ flK lvs = true ∧ isGone (.m kvs) = false ∧ kvs.length + lvs.length ≤ sizeLine
                · rw [if_pos hh]; exact propext ⟨fun z => ⟨hh, z⟩, fun z => z.2⟩
                · rw [if_neg hh]; exact propext ⟨fun z => False.elim z, fun z => absurd z.1 hh⟩
          | _ => rfl
        | _ => rfl
      | _ => rfl
    | _ => rfl
end
/-! ### sorted(d), its keys texts -/
end Cp
/-! Df: a sign in a text; comprehensions that map and pick. -/
namespace Cp
open PySem L2
/-! ### comprehensions whose body turns nothing -/
section
variable {E : Er → Sto → Prop} {st : Sto} {ρ : En} {g g1 : Gm} {tt tt1 : En → Sto → Res Bool} {te : Ev} {all : List PyData} {P : List PyData → Sto → Prop}
theorem filter_take_succ {α : Type} {l : List α} {i : Nat} {x : α} (h : l[i]? = some x) (p : α → Bool) : (l.take (i + 1)).filter p = (l.take i).filter p ++ if p x then [x] else [] := by
  rw [List.take_succ, h, List.filter_append]
  simp only [Option.toList_some, List.filter_cons, List.filter_nil]
theorem lc_pick (sel : PyData → Bool) (f : PyData → PyData) {ds : List PyData}
    (hs : ∀ d ∈ ds, WVe noE (g (.d d) ρ st) fun ρ1 s1 => WVe noE (tt ρ1 s1) fun k s2 => k = sel d ∧ (if k = true then WVe noE (te ρ1 s2) fun r s3 => frz r = .d (f d) ∧ s3 = st else s2 = st))
    (hl : ds.length ≤ sizeLine) (h : P ((ds.filter sel).map f) st) : WVe E (lcGo g tt te none all ρ ds st []) P := by
  refine lcGo_by (I := fun i s a => s = st ∧ a = ((ds.take i).filter sel).map f) ds 0 [] ⟨rfl, rfl⟩ (fun _ _ _ _ => trivial) ?_ ?_
  · rintro i d s a hd ⟨rfl, ha⟩
    rw [Nat.zero_add] at ha ⊢
    have hi : i < ds.length := (List.getElem?_eq_some_iff.mp hd).1
    refine WV_mono (hs d (List.mem_of_getElem? hd)) fun ρ1 s1 h1 => WV_mono h1 fun k s2 h2 => ?_
    obtain ⟨rfl, h2⟩ := h2
    rw [filter_take_succ hd]
    cases q : sel d with
    | true =>
      rw [q] at h2
      simp only [if_true] at h2 ⊢
      refine WV_mono h2 fun r s3 h3 => ⟨f d, h3.1, ?_, h3.2, by rw [ha, List.map_append]; rfl⟩
      have h4 : a.length ≤ i := by
        rw [ha, List.length_map]
        exact Nat.le_trans (List.length_filter_le _ _) (by rw [List.length_take]; omega)
      omega
    | false =>
      rw [q] at h2
      simp only [Bool.false_eq_true, if_false] at h2 ⊢
      exact ⟨h2, by rw [ha]; simp⟩
  · rintro s a ⟨rfl, ha⟩
    rw [ha, Nat.zero_add, List.take_length]
    exact h
theorem lc_map (f : PyData → PyData) {ds : List PyData} (hs : ∀ d ∈ ds, WVe noE (g (.d d) ρ st) fun ρ1 s1 => WVe noE (te ρ1 s1) fun r s3 => frz r = .d (f d) ∧ s3 = st) (hl : ds.length ≤ sizeLine) (h : P (ds.map f) st) :
    WVe E (lcGo g ttY te none all ρ ds st []) P := by
  refine lc_pick (fun _ => true) f (fun d hd => WV_mono (hs d hd) fun ρ1 s1 h1 => ?_) hl (by rw [List.filter_eq_self.mpr (fun _ _ => rfl)]; exact h)
  rw [W_ttY]
  exact ⟨rfl, by rw [if_pos rfl]; exact h1⟩
end
end Cp
/-! Cib: isinstance(e, T) of a caught own error, T a built-in class. -/
namespace Cp
open PySem PySem.Spec PyProof.Rows L2
section
variable {X : Cx} {C : Cn} {a : Expr} {ma : Ev} {p p2 pos : Pos} {y : Str} {T : String}
def isVB (x : Str) (t : String) (b : Bool) : Fb := fun K => decide (PySem.W.kitAny K (.ref (He.ga K x)) [.type t] = some b)
def rIsOV (K : PySem.W.Frag) (T : String) : List V → Hp → VK → Prop := fun xs H Q => ∃ (KK : Kw) (a D : Addr) (dd : Option Addr) (e : Option (Str × PyData)) (F : Hp) (b : Bool), xs = [.ref a, .ty T] ∧ H a = some (erO a (.ref D) dd) ∧ Same F H ∧ ErD KK F e dd ∧ ErrC K D ∧ PySem.W.kitOne K (.ref D) (.type T) = some b ∧ Q (.bl b) H
theorem call_isOV : CallR X (.builtin "isinstance") (rIsOV X.K T) := by
  intro pins s σ H xs us Q I r h
  obtain ⟨KK, a, D, dd, e, F, b, rfl, ha, sub, hd, T, hk, q⟩ := h
  obtain ⟨u1, u2, rfl, r1, r2⟩ := vals2 r
  cases (show u1 = Value.ref a from r1)
  cases r2
  obtain ⟨ox, od, J⟩ := er_inst I ha sub hd
  exact PySem.W.kia_one (kitx_er T) I.kIn J hk (fun z => nomatch z) fun tk => ⟨.bl b, H, I.tok tk, rfl, q⟩
def mIsV (cat : Cat) (ma : Ev) : Ev := fun ρ st => (mV ma ρ st).bind fun x s => match x with
  | .o (.er e) => match cat.lookup e.cls with
    | some k => .ok (.d (.bool k)) s
    | none => .no
  | _ => .no
variable {E : Er → Sto → Prop} {ρ : En} {st : Sto} {PE' : Rv → Sto → Prop} {cat : Cat}
@[simp] theorem W_mIsV : WVe E (mIsV cat ma ρ st) PE' = WVe E (ma ρ st) fun r s => match frz r with
    | .o (.er e) => WO (cat.lookup e.cls) fun k => PE' (.d (.bool k)) s
    | _ => False := by
  unfold mIsV; rw [WV_bind, W_mV]
  congr 1; funext r s
  generalize frz r = z
  cases z with
  | o x =>
    cases x with
    | er e => dsimp only; cases cat.lookup e.cls <;> rfl
    | _ => rfl
  | _ => rfl
end
end Cp
/-! Cf_index: an own error made with one value, kept as its field index. -/
namespace Cfindex
open PySem PySem.W PySem.Calls PyProof.Rows PySem.HandSPX
def iA (p1 p2 : Pos) : Arguments := { posonlyargs := [], args := [{ arg := "self", annotation := none, pos := p1 }, { arg := "index", annotation := none, pos := p2 }], vararg := none, kwonlyargs := [], kw_defaults := [], kwarg := none, defaults := [] }
def iB (q1 q2 q3 q4 : Pos) : List Stmt := [.Assign [.Attribute (.Name "self" q1) "index" q2] (.Name "index" q3) q4]
def iS : Scope := { kind := .function, names := [(PySem.Str.ofString "self", .local), (PySem.Str.ofString "index", .local)], isGenerator := false, isCoroutine := false, more := [] }
/-- what the written part says of the class at C, and of its __init__, at fI -/
structure Txt (K : Frag) (C fI : Addr) (ql : Str) : Prop where
  cls : ∃ nm q N bs bm sn sub ab col dd k0 k1 k2 k3 k5, K.lookup C = some (excClassObj nm q C N bs bm true sn sub ab col dd k0 k1 k2 k3 k5 "ValueError.__new__") ∧ refsVE bm = true
  sa : findIn K (.ref C) "__setattr__" = some (some (.builtin "object.__setattr__"))
  noN : findIn K (.ref C) "index" = some none
  iC : findIn K (.ref C) "__init__" = some (some (.ref fI))
  tC : typeIn K (.ref fI) = some (.type "function")
  kC : keepIn K (.ref C) = true
  exC : subIn K (.ref C) (.type "BaseException") = some true
  tyC : typeIn K (.ref C) = some (.type "type")
  fn : ∃ (oc : Value) (od : Option Addr) (kV doc pm : Value) (an : Option Addr) (cdv ct : Value) (osl : Array (Option Value)) (p1 p2 q1 q2 q3 q4 : Pos),
    K.lookup fI = some ⟨oc, od, .func (fnOf "__init__" ql (iA p1 p2) (iB q1 q2 q3 q4) iS .none kV doc pm an cdv ct), osl⟩ ∧ codeIn K cdv ql = true
def txtB (x : Str) : Cp.Fb := fun K => Cp.exObjB x K && (He.eqO (findIn K (.ref (He.ga K x)) "__setattr__") (some (some (.builtin "object.__setattr__"))) && (He.eqO (findIn K (.ref (He.ga K x)) "index") (some none) && (He.eqO (findIn K (.ref (He.ga K x)) "__init__") (some (some (.ref (He.ma K (He.ga K x) "__init__")))) &&
  (decide (typeIn K (.ref (He.ma K (He.ga K x) "__init__")) = some (.type "function")) && (keepIn K (.ref (He.ga K x)) && (decide (subIn K (.ref (He.ga K x)) (.type "BaseException") = some true) && decide (typeIn K (.ref (He.ga K x)) = some (.type "type"))))))))
theorem txt_ok {K : Frag} {x ql : Str} {p1 p2 q1 q2 q3 q4 : Pos} {fd : FuncData} (h : txtB x K = true) (F : L2.FunD K "__init__" ql (iA p1 p2) (iB q1 q2 q3 q4) iS [] [] (He.ma K (He.ga K x) "__init__") fd) : Txt K (He.ga K x) (He.ma K (He.ga K x) "__init__") ql := by
  obtain ⟨h1, h⟩ := He.ba h
  obtain ⟨h2, h⟩ := He.ba h
  obtain ⟨h3, h⟩ := He.ba h
  obtain ⟨h4, h⟩ := He.ba h
  obtain ⟨h5, h⟩ := He.ba h
  obtain ⟨h6, h⟩ := He.ba h
  obtain ⟨h7, h8⟩ := He.ba h
  obtain ⟨oc, od, dV, kV, doc, pm, an, cdv, ct, osl, rfl, lk, hcd, hd, _⟩ := F.ex
  have ed : dV = .none := by
    rcases hd with ⟨_, e⟩ | ⟨e, _⟩
    · exact e
    · exact absurd rfl e
  subst ed
  exact ⟨Cp.exObjB_ok h1, He.eqO_ok h2, He.eqO_ok h3, He.eqO_ok h4, of_decide_eq_true h5, h6, of_decide_eq_true h7, of_decide_eq_true h8, oc, od, kV, doc, pm, an, cdv, ct, osl, p1, p2, q1, q2, q3, q4, lk, hcd⟩
theorem one_size (v : Value) : [v].length ≤ sizeLine := by
  rw [sizeLine_eq]
  exact (by decide : 1 ≤ 16777216)
theorem ldC {M : Model} {s : Shared} {name : Str} {scope : Scope} {L a : Addr} {cd : Value} {m : Str → Option Value} {x : Str} {pos : Pos} {v : Value} {Q : Value → Shared → Prop} {A : Around} {E : Value → Shared → Prop} (hn : s.heap.Ns L m) (hv : m x = some v) (h : Q v s)
    (hk : scope.kind = .function := by rfl) (hl : (envOfC name scope L a cd).kindOf x = some .local := by rfl) (hd : (x == ("__debug__" : Str)) = false := by decide) :
    wpAny M A (eval (.Name x pos) (envOfC name scope L a cd)) Q E s := wpAny_Name (wpAny_loadName_local hk hl hn hv h) hd
structure InitEnd (h h' : Heap) (x C dx t1 : Addr) (v : Value) : Prop where
  keep : ∀ b o, b ≠ x → h.get? b = some o → h'.get? b = some o
  obj : h'.get? x = some { cls := .ref C, dict := some dx, data := .fields #[.ref t1, .none, .none, .none, .bool false, .none] }
  dbig : h.objs.size ≤ dx
  dne : dx ≠ x
  ns : h'.Ns1 dx (fun y => if y = "index" then some v else none)
structure OwnMade (h h' : Heap) (e C d : Addr) (v : Value) : Prop where
  keep : ∀ b o, h.get? b = some o → h'.get? b = some o
  new : h.objs.size ≤ e
  obj : ∃ oe vs, h'.get? e = some oe ∧ oe.cls = .ref C ∧ oe.dict = some d ∧ oe.data = .fields vs ∧ vs[1]? = some .none
  dbig : h.objs.size ≤ d
  dne : d ≠ e
  ns : h'.Ns1 d (fun y => if y = "index" then some v else none)
section
variable {prog : Program} {w : World} {A : Around} {E : Value → Shared → Prop} {R : Result → Shared → Prop} {s : Shared} {K : Frag} {C fI : Addr} {ql : Str}
theorem init (T : Txt K C fI ql) {x t0 : Addr} {v : Value} (X : K.In s.heap) (hlim : s.heap.NoLimit) (hx : s.heap.get? x = some (excO C t0)) (hnx : K.lookup x = none) (hroom : A.depth < recursionLimit)
    (hq : ∀ h' tk dx, InitEnd s.heap h' x C dx t0 v → R (.ok (.ret .none)) { s with heap := h', toks := tk }) :
    codeAny (model prog w) A (.call (.ref fI) ⟨[.ref x, v], []⟩) R s := by
  obtain ⟨oc, od, kV, doc, pm, an, cdv, ct, osl, p1, p2, q1, q2, q3, q4, ho, hcd⟩ := T.fn
  obtain ⟨nm, q, N, bs, bm, sn, sub, ab, col, dd, k0, k1, k2, k3, k5, hC, hbm⟩ := T.cls
  have hcl : clsIn K C = some { name := nm, bases := bs, mro := .ref C :: bm, ns := N, qualname := q, hasDict := true, slotNames := sn, subclasses := sub, abstract := ab, collection := col, hasDel := false } := by unfold clsIn; rw [hC] <;> rfl
  refine Att.call_fn (binds := [("self", .ref x), ("index", v)]) X hlim ho hcd hroom (BindsTo.of_eq (by first | rfl | with_unfolding_all rfl)) (by first | rfl | decide | with_unfolding_all rfl) (fun s₁ IC => ?_) rfl rfl rfl
  obtain ⟨h₁, tk₁, rfl⟩ := IC.toInCall.same
  have k : ∀ b o, s.heap.get? b = some o → h₁.get? b = some o := IC.toInCall.keep
  have hn := IC.toInCall.ns
  have hxL : s.heap.objs.size ≠ x := Nat.ne_of_gt (Heap.lt_size hx)
  have X₁ : K.In h₁ := X.keeps k
  have hx₁ := k _ _ hx
  show wpAny _ _ (execs _ _) _ _ _
  refine wpAny_execs_cons (plainObj_wpAny_Assign_Attribute ?_)
  refine ldC (v := v) hn (by first | rfl | with_unfolding_all rfl | kernel_rfl) (ldC (v := .ref x) hn (by first | rfl | with_unfolding_all rfl | kernel_rfl) ?_)
  refine set_plain X₁ (ox := excO C t0) (od := none) ⟨hx₁, rfl, rfl, trivial⟩ T.sa ?_
  refine exc_osa X₁ hx₁ hcl (show refsVE (.ref C :: bm) = true from hbm) rfl T.noN (fun h₃ tk₃ dx k₃ dn dne hx₃ hn₃ => ?_)
  show wpAny _ _ (execs _ _) _ _ _
  have z : s.heap.objs.size < h₁.objs.size := hn.lt
  exact wpAny_execs_nil (hq h₃ tk₃ dx ⟨fun b o hb e => k₃ b o hb (k b o e), hx₃, Nat.le_of_lt (Nat.lt_of_lt_of_le z dn), dne, hn₃⟩)
theorem made (T : Txt K C fI ql) {v : Value} (X : K.In s.heap) (hlim : s.heap.NoLimit) (hroom : A.depth + 1 < recursionLimit)
    (hq : ∀ h' tk e d, OwnMade s.heap h' e C d v → R (.ok (.ret (.ref e))) { s with heap := h', toks := tk }) :
    codeAny (model prog w) A (.call (.ref C) ⟨[v], []⟩) R s := by
  obtain ⟨nm, q, N, bs, bm, sn, sub, ab, col, dd, k0, k1, k2, k3, k5, hC, hbm⟩ := T.cls
  obtain ⟨hp, g, dr, tk, os⟩ := s
  have k : ∀ b o, hp.get? b = some o → ((hp.push (kdv_tup [v])).push (excO C hp.objs.size)).get? b = some o := fun b o e => Heap.get?_push_of_some _ (Heap.get?_push_of_some _ e)
  have hget : ((hp.push (kdv_tup [v])).push (excO C hp.objs.size)).get? (hp.objs.size + 1) = some (excO C hp.objs.size) := by heap_get
  have hnx : K.lookup (hp.objs.size + 1) = none := by
    cases e : K.lookup (hp.objs.size + 1) with
    | none => rfl
    | some o =>
      have z : hp.get? (hp.objs.size + 1) = some o := X _ _ e
      exact absurd (Nat.lt_of_succ_lt (Heap.lt_size z)) (Nat.lt_irrefl _)
  refine call_own F.excBase_ValueError (fun X => refsVE_contains X bm hbm) (X _ _ hC) (looks_findIn X T.iC) (fun self => bind_fn X self T.tC) (one_size v) ?_
  refine init (s := ⟨(hp.push (kdv_tup [v])).push (excO C hp.objs.size), g, dr, tk, os⟩) T (X.keeps k) (hlim.keeps k) hget hnx ?_ fun h' tk' dx ⟨k', hx, dn, dne, hns⟩ => ?_
  · show A.depth + 1 < recursionLimit
    exact hroom
  · have old : ∀ b o, hp.get? b = some o → h'.get? b = some o := fun b o e => k' b o (Nat.ne_of_lt (Nat.lt_succ_of_lt (Heap.lt_size e))) (k b o e)
    have z : hp.objs.size + 1 + 1 ≤ dx := by
      first
        | (simpa only [Heap.size_push] using dn)
        | exact dn
        | (have q := dn; rw [Heap.size_push, Heap.size_push] at q; exact q)
    exact ⟨rfl, hq h' tk' (hp.objs.size + 1) dx ⟨old, Nat.le_succ _, ⟨_, _, hx, rfl, rfl, rfl, rfl⟩, Nat.le_trans (Nat.le_trans (Nat.le_succ _) (Nat.le_succ _)) z, dne, hns⟩⟩
end
end Cfindex
namespace Cp
open PySem PySem.Spec PyProof.Rows L2
theorem relO_index {v : V} {v' : Value} (r : RelV v v') (f : Str) : RelO (List.lookup f [(("index" : Str), v)]) (if f = "index" then some v' else none) := by
  by_cases hw : f = "index"
  · subst hw
    rw [if_pos rfl]
    have q : List.lookup ("index" : Str) [(("index" : Str), v)] = some v := by simp [List.lookup]
    rw [q]
    exact r
  · rw [if_neg hw]
    have qw : (f == ("index" : Str)) = false := by simpa using hw
    have q2 : List.lookup f [(("index" : Str), v)] = none := by simp [List.lookup, qw]
    rw [q2]
    trivial
section
variable {X : Cx} {C fI : Addr} {ql x : Str}
def tMk_index (C : Addr) (ta : TA) : L2.St → Hp → XK → Prop := fun σ H Q => ta σ H fun vs H1 => ∃ v, vs = [v] ∧ ∀ d, H1 d = none → Q (.ref C) (some d) (upd H1 d (.xd [(("index" : Str), v)]))
theorem pmk_index {a : Expr} {ta : TA} {p pos : Pos} {k : Nat} (T : Cfindex.Txt X.K C fI ql) (gC : X.mg x = some (.ref C)) (hr : Room k X.A) (ha : PA X [a] ta) (hg : Gl X x) (hdb : (x == ("__debug__" : Str)) = false := by decide)
    (he : starEach (a :: []) X.env = (false, eval a X.env) :: starEach [] X.env := by rfl) (hpl : (backTo pos (starEach [] X.env)).any (·.1) = false := by rfl) :
    PMk X (.Call (.Name x p) [a] [] pos) (tMk_index C ta) := by
  intro pins s σ H Q I h
  refine wpAny_Call_Name_kw (ld_glob I hg gC ?_ hdb)
  refine PySem.W.callWith_K (h₀ := X.base) I.ok.mod.kin T.kC (thn (ha.run pos pins s σ H _ I h) fun us s1 hh => ?_) he hpl
  obtain ⟨vs, H1, I1, r1, v, ev, q1⟩ := hh
  subst ev
  refine ⟨I1.kIn, ?_⟩
  cases r1 with
  | cons rv rn =>
    rename_i v' us'
    cases rn
    show wpAny _ _ (call (.ref C) [v']) _ _ _
    have hlim := I1.nolimit
    obtain ⟨hp, g, dr, tk, os⟩ := s1
    refine wpAny_call (Cfindex.made T I1.kIn hlim (by have := hr.dp; omega) fun h' tk' e d M => ?_)
    show MkP X pins σ Q (.ref e) ⟨h', g, dr, tk', os⟩
    obtain ⟨oe, fv, hoe, hc, hd, hdat, h1⟩ := M.obj
    have hns := M.ns
    obtain ⟨G', g1, g2⟩ := restrict h' fun b => decide (b ≠ e)
    have gk : ∀ b, b ≠ e → G'.get? b = h'.get? b := fun b hb => g1 b (decide_eq_true hb)
    have ge : G'.get? e = none := g2 e (by simp)
    have old : ∀ b o, hp.get? b = some o → G'.get? b = some o := fun b o q => (gk b (Nat.ne_of_lt (Nat.lt_of_lt_of_le (Heap.lt_size q) M.new))).trans (M.keep b o q)
    have ob : ObjOk X.prog X.w (upd H1 d (.xd [(("index" : Str), v)])) G' d (.xd [(("index" : Str), v)]) :=
      ⟨_, hns.at (fun o q => (gk d M.dne).trans q), fun f => relO_index rv f⟩
    have J : Inv X pins σ (upd H1 d (.xd [(("index" : Str), v)])) ⟨G', g, dr, tk', os⟩ := I1.laid (t' := tk') old M.dbig ob
    refine ⟨e, oe, fv, ⟨G', g, dr, tk', os⟩, _, .ref C, some d, rfl, J, fun b o q => ?_, ge, hoe, ⟨hc, hd⟩, hdat, h1, ?_, rfl, I1.bare, raises_own T.exC T.tyC, q1 d (I1.hok.fresh M.dbig)⟩
    · by_cases hb : b = e
      · have q' : G'.get? b = some o := q
        rw [hb, ge] at q'; cases q'
      · exact (gk b hb).symm.trans q
    · rw [upd_ne (Ne.symm M.dne)]
      exact I1.hok.fresh M.new
end
end Cp
/-! Cf_command: an own error made with one value, kept as its field command. -/
namespace Cfcommand
open PySem PySem.W PySem.Calls PyProof.Rows PySem.HandSPX
def iA (p1 p2 : Pos) : Arguments := { posonlyargs := [], args := [{ arg := "self", annotation := none, pos := p1 }, { arg := "command", annotation := none, pos := p2 }], vararg := none, kwonlyargs := [], kw_defaults := [], kwarg := none, defaults := [] }
def iB (q1 q2 q3 q4 : Pos) : List Stmt := [.Assign [.Attribute (.Name "self" q1) "command" q2] (.Name "command" q3) q4]
def iS : Scope := { kind := .function, names := [(PySem.Str.ofString "self", .local), (PySem.Str.ofString "command", .local)], isGenerator := false, isCoroutine := false, more := [] }
/-- what the written part says of the class at C, and of its __init__, at fI -/
structure Txt (K : Frag) (C fI : Addr) (ql : Str) : Prop where
  cls : ∃ nm q N bs bm sn sub ab col dd k0 k1 k2 k3 k5, K.lookup C = some (excClassObj nm q C N bs bm true sn sub ab col dd k0 k1 k2 k3 k5 "ValueError.__new__") ∧ refsVE bm = true
  sa : findIn K (.ref C) "__setattr__" = some (some (.builtin "object.__setattr__"))
  noN : findIn K (.ref C) "command" = some none
  iC : findIn K (.ref C) "__init__" = some (some (.ref fI))
  tC : typeIn K (.ref fI) = some (.type "function")
  kC : keepIn K (.ref C) = true
  exC : subIn K (.ref C) (.type "BaseException") = some true
  tyC : typeIn K (.ref C) = some (.type "type")
  fn : ∃ (oc : Value) (od : Option Addr) (kV doc pm : Value) (an : Option Addr) (cdv ct : Value) (osl : Array (Option Value)) (p1 p2 q1 q2 q3 q4 : Pos),
    K.lookup fI = some ⟨oc, od, .func (fnOf "__init__" ql (iA p1 p2) (iB q1 q2 q3 q4) iS .none kV doc pm an cdv ct), osl⟩ ∧ codeIn K cdv ql = true
def txtB (x : Str) : Cp.Fb := fun K => Cp.exObjB x K && (He.eqO (findIn K (.ref (He.ga K x)) "__setattr__") (some (some (.builtin "object.__setattr__"))) && (He.eqO (findIn K (.ref (He.ga K x)) "command") (some none) && (He.eqO (findIn K (.ref (He.ga K x)) "__init__") (some (some (.ref (He.ma K (He.ga K x) "__init__")))) &&
  (decide (typeIn K (.ref (He.ma K (He.ga K x) "__init__")) = some (.type "function")) && (keepIn K (.ref (He.ga K x)) && (decide (subIn K (.ref (He.ga K x)) (.type "BaseException") = some true) && decide (typeIn K (.ref (He.ga K x)) = some (.type "type"))))))))
theorem txt_ok {K : Frag} {x ql : Str} {p1 p2 q1 q2 q3 q4 : Pos} {fd : FuncData} (h : txtB x K = true) (F : L2.FunD K "__init__" ql (iA p1 p2) (iB q1 q2 q3 q4) iS [] [] (He.ma K (He.ga K x) "__init__") fd) : Txt K (He.ga K x) (He.ma K (He.ga K x) "__init__") ql := by
  obtain ⟨h1, h⟩ := He.ba h
  obtain ⟨h2, h⟩ := He.ba h
  obtain ⟨h3, h⟩ := He.ba h
  obtain ⟨h4, h⟩ := He.ba h
  obtain ⟨h5, h⟩ := He.ba h
  obtain ⟨h6, h⟩ := He.ba h
  obtain ⟨h7, h8⟩ := He.ba h
  obtain ⟨oc, od, dV, kV, doc, pm, an, cdv, ct, osl, rfl, lk, hcd, hd, _⟩ := F.ex
  have ed : dV = .none := by
    rcases hd with ⟨_, e⟩ | ⟨e, _⟩
    · exact e
    · exact absurd rfl e
  subst ed
  exact ⟨Cp.exObjB_ok h1, He.eqO_ok h2, He.eqO_ok h3, He.eqO_ok h4, of_decide_eq_true h5, h6, of_decide_eq_true h7, of_decide_eq_true h8, oc, od, kV, doc, pm, an, cdv, ct, osl, p1, p2, q1, q2, q3, q4, lk, hcd⟩
theorem one_size (v : Value) : [v].length ≤ sizeLine := by
  rw [sizeLine_eq]
  exact (by decide : 1 ≤ 16777216)
theorem ldC {M : Model} {s : Shared} {name : Str} {scope : Scope} {L a : Addr} {cd : Value} {m : Str → Option Value} {x : Str} {pos : Pos} {v : Value} {Q : Value → Shared → Prop} {A : Around} {E : Value → Shared → Prop} (hn : s.heap.Ns L m) (hv : m x = some v) (h : Q v s)
    (hk : scope.kind = .function := by rfl) (hl : (envOfC name scope L a cd).kindOf x = some .local := by rfl) (hd : (x == ("__debug__" : Str)) = false := by decide) :
    wpAny M A (eval (.Name x pos) (envOfC name scope L a cd)) Q E s := wpAny_Name (wpAny_loadName_local hk hl hn hv h) hd
structure InitEnd (h h' : Heap) (x C dx t1 : Addr) (v : Value) : Prop where
  keep : ∀ b o, b ≠ x → h.get? b = some o → h'.get? b = some o
  obj : h'.get? x = some { cls := .ref C, dict := some dx, data := .fields #[.ref t1, .none, .none, .none, .bool false, .none] }
  dbig : h.objs.size ≤ dx
  dne : dx ≠ x
  ns : h'.Ns1 dx (fun y => if y = "command" then some v else none)
structure OwnMade (h h' : Heap) (e C d : Addr) (v : Value) : Prop where
  keep : ∀ b o, h.get? b = some o → h'.get? b = some o
  new : h.objs.size ≤ e
  obj : ∃ oe vs, h'.get? e = some oe ∧ oe.cls = .ref C ∧ oe.dict = some d ∧ oe.data = .fields vs ∧ vs[1]? = some .none
  dbig : h.objs.size ≤ d
  dne : d ≠ e
  ns : h'.Ns1 d (fun y => if y = "command" then some v else none)
section
variable {prog : Program} {w : World} {A : Around} {E : Value → Shared → Prop} {R : Result → Shared → Prop} {s : Shared} {K : Frag} {C fI : Addr} {ql : Str}
theorem init (T : Txt K C fI ql) {x t0 : Addr} {v : Value} (X : K.In s.heap) (hlim : s.heap.NoLimit) (hx : s.heap.get? x = some (excO C t0)) (hnx : K.lookup x = none) (hroom : A.depth < recursionLimit)
    (hq : ∀ h' tk dx, InitEnd s.heap h' x C dx t0 v → R (.ok (.ret .none)) { s with heap := h', toks := tk }) :
    codeAny (model prog w) A (.call (.ref fI) ⟨[.ref x, v], []⟩) R s := by
  obtain ⟨oc, od, kV, doc, pm, an, cdv, ct, osl, p1, p2, q1, q2, q3, q4, ho, hcd⟩ := T.fn
  obtain ⟨nm, q, N, bs, bm, sn, sub, ab, col, dd, k0, k1, k2, k3, k5, hC, hbm⟩ := T.cls
  have hcl : clsIn K C = some { name := nm, bases := bs, mro := .ref C :: bm, ns := N, qualname := q, hasDict := true, slotNames := sn, subclasses := sub, abstract := ab, collection := col, hasDel := false } := by unfold clsIn; rw [hC] <;> rfl
  refine Att.call_fn (binds := [("self", .ref x), ("command", v)]) X hlim ho hcd hroom (BindsTo.of_eq (by first | rfl | with_unfolding_all rfl)) (by first | rfl | decide | with_unfolding_all rfl) (fun s₁ IC => ?_) rfl rfl rfl
  obtain ⟨h₁, tk₁, rfl⟩ := IC.toInCall.same
  have k : ∀ b o, s.heap.get? b = some o → h₁.get? b = some o := IC.toInCall.keep
  have hn := IC.toInCall.ns
  have hxL : s.heap.objs.size ≠ x := Nat.ne_of_gt (Heap.lt_size hx)
  have X₁ : K.In h₁ := X.keeps k
  have hx₁ := k _ _ hx
  show wpAny _ _ (execs _ _) _ _ _
  refine wpAny_execs_cons (plainObj_wpAny_Assign_Attribute ?_)
  refine ldC (v := v) hn (by first | rfl | with_unfolding_all rfl | kernel_rfl) (ldC (v := .ref x) hn (by first | rfl | with_unfolding_all rfl | kernel_rfl) ?_)
  refine set_plain X₁ (ox := excO C t0) (od := none) ⟨hx₁, rfl, rfl, trivial⟩ T.sa ?_
  refine exc_osa X₁ hx₁ hcl (show refsVE (.ref C :: bm) = true from hbm) rfl T.noN (fun h₃ tk₃ dx k₃ dn dne hx₃ hn₃ => ?_)
  show wpAny _ _ (execs _ _) _ _ _
  have z : s.heap.objs.size < h₁.objs.size := hn.lt
  exact wpAny_execs_nil (hq h₃ tk₃ dx ⟨fun b o hb e => k₃ b o hb (k b o e), hx₃, Nat.le_of_lt (Nat.lt_of_lt_of_le z dn), dne, hn₃⟩)
theorem made (T : Txt K C fI ql) {v : Value} (X : K.In s.heap) (hlim : s.heap.NoLimit) (hroom : A.depth + 1 < recursionLimit)
    (hq : ∀ h' tk e d, OwnMade s.heap h' e C d v → R (.ok (.ret (.ref e))) { s with heap := h', toks := tk }) :
    codeAny (model prog w) A (.call (.ref C) ⟨[v], []⟩) R s := by
  obtain ⟨nm, q, N, bs, bm, sn, sub, ab, col, dd, k0, k1, k2, k3, k5, hC, hbm⟩ := T.cls
  obtain ⟨hp, g, dr, tk, os⟩ := s
  have k : ∀ b o, hp.get? b = some o → ((hp.push (kdv_tup [v])).push (excO C hp.objs.size)).get? b = some o := fun b o e => Heap.get?_push_of_some _ (Heap.get?_push_of_some _ e)
  have hget : ((hp.push (kdv_tup [v])).push (excO C hp.objs.size)).get? (hp.objs.size + 1) = some (excO C hp.objs.size) := by heap_get
  have hnx : K.lookup (hp.objs.size + 1) = none := by
    cases e : K.lookup (hp.objs.size + 1) with
    | none => rfl
    | some o =>
      have z : hp.get? (hp.objs.size + 1) = some o := X _ _ e
      exact absurd (Nat.lt_of_succ_lt (Heap.lt_size z)) (Nat.lt_irrefl _)
  refine call_own F.excBase_ValueError (fun X => refsVE_contains X bm hbm) (X _ _ hC) (looks_findIn X T.iC) (fun self => bind_fn X self T.tC) (one_size v) ?_
  refine init (s := ⟨(hp.push (kdv_tup [v])).push (excO C hp.objs.size), g, dr, tk, os⟩) T (X.keeps k) (hlim.keeps k) hget hnx ?_ fun h' tk' dx ⟨k', hx, dn, dne, hns⟩ => ?_
  · show A.depth + 1 < recursionLimit
    exact hroom
  · have old : ∀ b o, hp.get? b = some o → h'.get? b = some o := fun b o e => k' b o (Nat.ne_of_lt (Nat.lt_succ_of_lt (Heap.lt_size e))) (k b o e)
    have z : hp.objs.size + 1 + 1 ≤ dx := by
      first
        | (simpa only [Heap.size_push] using dn)
        | exact dn
        | (have q := dn; rw [Heap.size_push, Heap.size_push] at q; exact q)
    exact ⟨rfl, hq h' tk' (hp.objs.size + 1) dx ⟨old, Nat.le_succ _, ⟨_, _, hx, rfl, rfl, rfl, rfl⟩, Nat.le_trans (Nat.le_trans (Nat.le_succ _) (Nat.le_succ _)) z, dne, hns⟩⟩
end
end Cfcommand
namespace Cp
open PySem PySem.Spec PyProof.Rows L2
theorem relO_command {v : V} {v' : Value} (r : RelV v v') (f : Str) : RelO (List.lookup f [(("command" : Str), v)]) (if f = "command" then some v' else none) := by
  by_cases hw : f = "command"
  · subst hw
    rw [if_pos rfl]
    have q : List.lookup ("command" : Str) [(("command" : Str), v)] = some v := by simp [List.lookup]
    rw [q]
    exact r
  · rw [if_neg hw]
    have qw : (f == ("command" : Str)) = false := by simpa using hw
    have q2 : List.lookup f [(("command" : Str), v)] = none := by simp [List.lookup, qw]
    rw [q2]
    trivial
section
variable {X : Cx} {C fI : Addr} {ql x : Str}
def tMk_command (C : Addr) (ta : TA) : L2.St → Hp → XK → Prop := fun σ H Q => ta σ H fun vs H1 => ∃ v, vs = [v] ∧ ∀ d, H1 d = none → Q (.ref C) (some d) (upd H1 d (.xd [(("command" : Str), v)]))
theorem pmk_command {a : Expr} {ta : TA} {p pos : Pos} {k : Nat} (T : Cfcommand.Txt X.K C fI ql) (gC : X.mg x = some (.ref C)) (hr : Room k X.A) (ha : PA X [a] ta) (hg : Gl X x) (hdb : (x == ("__debug__" : Str)) = false := by decide)
    (he : starEach (a :: []) X.env = (false, eval a X.env) :: starEach [] X.env := by rfl) (hpl : (backTo pos (starEach [] X.env)).any (·.1) = false := by rfl) :
    PMk X (.Call (.Name x p) [a] [] pos) (tMk_command C ta) := by
  intro pins s σ H Q I h
  refine wpAny_Call_Name_kw (ld_glob I hg gC ?_ hdb)
  refine PySem.W.callWith_K (h₀ := X.base) I.ok.mod.kin T.kC (thn (ha.run pos pins s σ H _ I h) fun us s1 hh => ?_) he hpl
  obtain ⟨vs, H1, I1, r1, v, ev, q1⟩ := hh
  subst ev
  refine ⟨I1.kIn, ?_⟩
  cases r1 with
  | cons rv rn =>
    rename_i v' us'
    cases rn
    show wpAny _ _ (call (.ref C) [v']) _ _ _
    have hlim := I1.nolimit
    obtain ⟨hp, g, dr, tk, os⟩ := s1
    refine wpAny_call (Cfcommand.made T I1.kIn hlim (by have := hr.dp; omega) fun h' tk' e d M => ?_)
    show MkP X pins σ Q (.ref e) ⟨h', g, dr, tk', os⟩
    obtain ⟨oe, fv, hoe, hc, hd, hdat, h1⟩ := M.obj
    have hns := M.ns
    obtain ⟨G', g1, g2⟩ := restrict h' fun b => decide (b ≠ e)
    have gk : ∀ b, b ≠ e → G'.get? b = h'.get? b := fun b hb => g1 b (decide_eq_true hb)
    have ge : G'.get? e = none := g2 e (by simp)
    have old : ∀ b o, hp.get? b = some o → G'.get? b = some o := fun b o q => (gk b (Nat.ne_of_lt (Nat.lt_of_lt_of_le (Heap.lt_size q) M.new))).trans (M.keep b o q)
    have ob : ObjOk X.prog X.w (upd H1 d (.xd [(("command" : Str), v)])) G' d (.xd [(("command" : Str), v)]) :=
      ⟨_, hns.at (fun o q => (gk d M.dne).trans q), fun f => relO_command rv f⟩
    have J : Inv X pins σ (upd H1 d (.xd [(("command" : Str), v)])) ⟨G', g, dr, tk', os⟩ := I1.laid (t' := tk') old M.dbig ob
    refine ⟨e, oe, fv, ⟨G', g, dr, tk', os⟩, _, .ref C, some d, rfl, J, fun b o q => ?_, ge, hoe, ⟨hc, hd⟩, hdat, h1, ?_, rfl, I1.bare, raises_own T.exC T.tyC, q1 d (I1.hok.fresh M.dbig)⟩
    · by_cases hb : b = e
      · have q' : G'.get? b = some o := q
        rw [hb, ge] at q'; cases q'
      · exact (gk b hb).symm.trans q
    · rw [upd_ne (Ne.symm M.dne)]
      exact I1.hok.fresh M.new
end
end Cp
/-! Cer: own errors made as values (data), what is asked of them. -/
namespace Cp
open PySem PySem.Spec PyProof.Rows L2
def erD (x : Str) : Option (Str × PyData) → PyData
  | none => .dict [(.list [], .str x), (.none, .none)]
  | some (f, d) => .dict [(.list [], .str x), (.none, .none), (.str f, d)]
/-- the class and the field of an error that is data -/
def erV : PyData → Option Er
  | .dict [(.list [], .str x), (.none, .none)] => some ⟨x, none⟩
  | .dict [(.list [], .str x), (.none, .none), (.str f, d)] => some ⟨x, some (f, d)⟩
  | _ => none
theorem erV_d (x : Str) (a : Option (Str × PyData)) : erV (erD x a) = some ⟨x, a⟩ := by
  rcases a with _ | ⟨f, d⟩ <;> rfl
theorem erV_of {d : PyData} {e : Er} (h : erV d = some e) : d = erD e.cls e.arg := by
  unfold erV at h
  split at h
  · cases h; rfl
  · cases h; rfl
  · cases h
theorem dq_er {K : Kw} {F : Hp} {v : V} {x : Str} {a : Option (Str × PyData)} (h : Dq K F v (erD x a)) : ∃ b dd, v = .ref b ∧ F b = some (erO b (.ref (He.ga K x)) dd) ∧ ErD K F a dd := by
  rcases a with _ | ⟨f, d⟩
  · generalize he : erD x none = z at h
    cases h with
    | exn0 h => cases he; exact ⟨_, _, rfl, h, rfl⟩
    | exn h g r => cases he
    | ins h g r =>
      injection he with he
      injection he with he1 he
      injection he1 with _ hx
      cases hx
      cases r with
      | nil => cases he
      | cons _ _ => cases he
    | dic h r =>
      injection he with he
      subst he
      generalize hw : ([(.list [], .str x), (.none, .none)] : List (PyData × PyData)) = kvs at r
      cases r with
      | nil => cases hw
      | @cons k v ws d kvs h r =>
        injection hw with hw _
        injection hw with hw _
        cases k <;> cases hw
    | dig h r n z =>
      injection he with he
      subst he
      generalize hw : ([(.list [], .str x), (.none, .none)] : List (PyData × PyData)) = kvs at r
      cases r with
      | nil => cases hw
      | cons g e2 _ _ _ =>
        injection hw with hw _
        injection hw with hw _
        subst hw
        cases e2
    | _ => cases he
  · generalize he : erD x (some (f, d)) = z at h
    cases h with
    | exn0 h => cases he
    | exn h g r => cases he; exact ⟨_, _, rfl, h, _, _, rfl, g, r⟩
    | ins h g r =>
      injection he with he
      injection he with he1 he
      injection he1 with _ hx
      cases hx
      cases r with
      | nil => cases he
      | cons _ _ => cases he
    | dic h r =>
      injection he with he
      subst he
      generalize hw : ([(.list [], .str x), (.none, .none), (.str f, d)] : List (PyData × PyData)) = kvs at r
      cases r with
      | nil => cases hw
      | @cons k v ws d kvs h r =>
        injection hw with hw _
        injection hw with hw _
        cases k <;> cases hw
    | dig h r n z =>
      injection he with he
      subst he
      generalize hw : ([(.list [], .str x), (.none, .none), (.str f, d)] : List (PyData × PyData)) = kvs at r
      cases r with
      | nil => cases hw
      | cons g e2 _ _ _ =>
        injection hw with hw _
        injection hw with hw _
        subst hw
        cases e2
    | _ => cases he
section
variable {X : Cx} {e : Expr}
/-- an error that is made, as a value -/
theorem pe_mk {t : L2.St → Hp → XK → Prop} (h : PMk X e t) : PE X e (fun σ H Q => t σ H fun cls d H' => ∀ a, H' a = none → Q (.ref a) (upd H' a (erO a cls d))) := by
  refine ⟨fun pins s σ H Q I q => wpAny_mono (h pins s σ H _ I q) (fun u s' hu => ?_) fun _ _ x => x⟩
  obtain ⟨a, oe, vs, sI, H', cls, d, rfl, J, k, hne, ha, hz, hd, h1, na, os, ag, r, q⟩ := hu
  exact ⟨.ref a, _, landedT (B := sI.heap) J (fun b o e _ => e) (fun b o e => k b o e) (fun b o e _ => ⟨o.slots, k b o e⟩) os ag hne na (erO_ok ha hz hd), rfl, q a na⟩
end
def mErV0 (x : Str) : Ev := fun _ st => .ok (.d (erD x none)) st
def mErV1 (x f : Str) (ma : En → Sto → Res (List Vl)) : Ev := fun ρ st => (ma ρ st).bind fun xs s => match xs with
  | [.d y] => .ok (.d (erD x (some (f, y)))) s
  | _ => .no
section
variable {X : Cx} {C : Cn} {k : Nat} {x : Str} {p pos : Pos}
theorem s_erV0 (Bb : Bd k X C) (gC : X.mg x = some (.ref (He.ga X.K x)))
    (c : PySem.W.excIn X.K (He.ga X.K x) He.veBase "ValueError.__new__" = true ∧ PySem.W.keepIn X.K (.ref (He.ga X.K x)) = true ∧ PySem.W.subIn X.K (.ref (He.ga X.K x)) (.type "BaseException") = some true ∧ PySem.W.typeIn X.K (.ref (He.ga X.K x)) = some (.type "type"))
    (hg : Gl X x) (hdb : (x == ("__debug__" : Str)) = false := by decide) : PE X (.Call (.Name x p) [] [] pos) (tM C (mErV0 x)) :=
  (pe_mk (pmk_own0 PySem.F.excBase_ValueError c.1 gC c.2.1 (raises_own c.2.2.1 c.2.2.2) hg hdb)).imp fun σ H Q ⟨ρ, st, μ, F, h1, h2, h3⟩ => by
    intro a ha
    have h3 : PostE (C.at σ) Q μ F H (.ok (.d (erD x none)) st) := h3
    obtain ⟨r2, x2⟩ := h2.newly (o := erO a (.ref (He.ga X.K x)) none) ha
    have dd := h2.dead ha
    obtain ⟨r3, x3, sm⟩ := r2.freeze x2 h2.sub ha upd_same dd.1 dd.2
    exact fin_d r3 (Post.later gE_lat x3 h3) (.exn0 (by rw [Bb.hK]; exact upd_same))
theorem er_two {K : Kw} {μ : Mu} {F H : Hp} {st : Sto} {a d : Addr} {v : V} {y : PyData} {f : Str} (h2 : SR K μ F H st) (kv : Dq K F v y) (hd : H d = none) (ha : upd H d (.xd [(f, v)]) a = none) :
    ∃ F2, SR K μ F2 (upd (upd H d (.xd [(f, v)])) a (erO a (.ref (He.ga K x)) (some d))) st ∧ Ext μ F H μ F2 (upd (upd H d (.xd [(f, v)])) a (erO a (.ref (He.ga K x)) (some d))) ∧ Dq K F2 (.ref a) (erD x (some (f, y))) := by
  obtain ⟨r2, x2⟩ := h2.newly (o := .xd [(f, v)]) hd
  have dd := h2.dead hd
  obtain ⟨r3, x3, sm⟩ := r2.freeze x2 h2.sub hd upd_same dd.1 dd.2
  obtain ⟨r4, x4⟩ := r3.newly (o := erO a (.ref (He.ga K x)) (some d)) ha
  have d2 := r3.dead ha
  obtain ⟨r5, x5, sm2⟩ := r4.freeze x4 r3.sub ha upd_same d2.1 d2.2
  exact ⟨_, r5, x3.trans x5, .exn upd_same (sm2 _ _ upd_same) ((kv.same sm).same sm2)⟩
theorem s_erV1 {f : Str} {e : Expr} {mas : En → Sto → Res (List Vl)} (Bb : Bd k X C)
    (hp : PMk X e (fun σ H Q => tAs C mas σ H fun vs H1 => ∃ v, vs = [v] ∧ ∀ d, H1 d = none → Q (.ref (He.ga X.K x)) (some d) (upd H1 d (.xd [(f, v)])))) : PE X e (tM C (mErV1 x f mas)) :=
  (pe_mk hp).imp fun σ H Q ⟨ρ, st, μ, F, h1, h2, h3⟩ => ⟨ρ, st, μ, F, h1, h2, Post.bindA gE_lat h3 fun xs s vs μ1 F1 H1 x1 r1 k1 h4 => by
    match xs, k1, h4 with
    | [], _, h4 => exact False.elim h4
    | z :: _ :: _, _, h4 => cases z <;> exact False.elim h4
    | [.c _], _, h4 => exact False.elim h4
    | [.s _], _, h4 => exact False.elim h4
    | [.o _], _, h4 => exact False.elim h4
    | [.d y], .cons kv .nil, h4 =>
      refine ⟨_, rfl, fun d hd a ha => ?_⟩
      have kv : Dq C.K F1 _ y := kv
      rw [← Bb.hK]
      obtain ⟨F2, r2, x2, k2⟩ := er_two (x := x) (f := f) r1 kv hd ha
      exact fin_d r2 (Post.later gE_lat x2 h4) k2⟩
section
variable {a : Expr} {mas : En → Sto → Res (List Vl)} {fI : Addr} {ql : Str}
theorem s_erV_value (Bb : Bd k X C) (T : Cfvalue.Txt X.K (He.ga X.K x) fI ql) (gC : X.mg x = some (.ref (He.ga X.K x))) (hg : Gl X x) (ha : PA X [a] (tAs C mas)) (hdb : (x == ("__debug__" : Str)) = false := by decide)
    (he : starEach (a :: []) X.env = (false, eval a X.env) :: starEach [] X.env := by rfl) (hpl : (backTo pos (starEach [] X.env)).any (·.1) = false := by rfl) :
    PE X (.Call (.Name x p) [a] [] pos) (tM C (mErV1 x "value" mas)) := s_erV1 Bb (pmk_value T gC Bb.rm.room ha hg hdb he hpl)
theorem s_erV_index (Bb : Bd k X C) (T : Cfindex.Txt X.K (He.ga X.K x) fI ql) (gC : X.mg x = some (.ref (He.ga X.K x))) (hg : Gl X x) (ha : PA X [a] (tAs C mas)) (hdb : (x == ("__debug__" : Str)) = false := by decide)
    (he : starEach (a :: []) X.env = (false, eval a X.env) :: starEach [] X.env := by rfl) (hpl : (backTo pos (starEach [] X.env)).any (·.1) = false := by rfl) :
    PE X (.Call (.Name x p) [a] [] pos) (tM C (mErV1 x "index" mas)) := s_erV1 Bb (pmk_index T gC Bb.rm.room ha hg hdb he hpl)
theorem s_erV_command (Bb : Bd k X C) (T : Cfcommand.Txt X.K (He.ga X.K x) fI ql) (gC : X.mg x = some (.ref (He.ga X.K x))) (hg : Gl X x) (ha : PA X [a] (tAs C mas)) (hdb : (x == ("__debug__" : Str)) = false := by decide)
    (he : starEach (a :: []) X.env = (false, eval a X.env) :: starEach [] X.env := by rfl) (hpl : (backTo pos (starEach [] X.env)).any (·.1) = false := by rfl) :
    PE X (.Call (.Name x p) [a] [] pos) (tM C (mErV1 x "command" mas)) := s_erV1 Bb (pmk_command T gC Bb.rm.room ha hg hdb he hpl)
end
end
section
variable {X : Cx} {C : Cn} {a : Expr} {ma : Ev} {p p2 pos : Pos} {y f : Str}
/-- isinstance(e, Y): of an error that is data -/
def mIsD (cat : Cat) (ma : Ev) : Ev := fun ρ st => (mV ma ρ st).bind fun x s => match x with
  | .d d => match erV d with
    | some e => match cat.lookup e.cls with
      | some k => .ok (.d (.bool k)) s
      | none => .no
    | none => .no
  | _ => .no
theorem s_isD {cat : Cat} (B0 : C.K = X.K) (hg : Gl X "isinstance") (hm : X.mg "isinstance" = none) (ha : PE X a (tM C ma)) (gy : Gl X y) (my : X.mg y = some (.ref (He.ga X.K y))) (hE : ∀ z k, cat.lookup z = some k → ErrC X.K (He.ga X.K z) ∧ PySem.W.kitAny X.K (.ref (He.ga X.K z)) [.ref (He.ga X.K y)] = some k)
    (hd : (y == ("__debug__" : Str)) = false := by decide)
    (he : starEach [a, .Name y p2] X.env = (false, eval a X.env) :: starEach [.Name y p2] X.env := by rfl) (hpl : (backTo pos (starEach [.Name y p2] X.env)).any (·.1) = false := by rfl) (he2 : starEach [.Name y p2] X.env = (false, eval (.Name y p2) X.env) :: starEach [] X.env := by rfl) :
    PE X (.Call (.Name "isinstance" p) [a, .Name y p2] [] pos) (tM C (mIsD cat ma)) :=
  (pe_callB call_isO hg hm boot_isi (pa_cons (pv_frz ha) (pa_cons (pe_glob (v := .ref (He.ga X.K y)) gy my rfl hd) pa_nil he2) he) (by decide) (by decide) he hpl).imp fun σ H Q ⟨ρ, st, μ, F, h1, h2, h3⟩ => ⟨ρ, st, μ, F, h1, h2, Post.bindV gE_lat h3 fun x s v μ1 F1 H1 x1 r1 k1 h4 => by
    cases x with
    | c _ => exact False.elim h4
    | s _ => exact False.elim h4
    | o _ => exact False.elim h4
    | d d =>
      cases q0 : erV d with
      | none => simp only [q0] at h4; exact False.elim h4
      | some e =>
        simp only [q0] at h4
        cases q : cat.lookup e.cls with
        | none => simp only [q] at h4; exact False.elim h4
        | some k =>
          simp only [q] at h4
          have k1 : Dq C.K F1 v d := k1
          rw [erV_of q0] at k1
          obtain ⟨a, dd, rfl, e1, e2⟩ := dq_er k1
          obtain ⟨T, hk⟩ := hE _ _ q
          rw [B0] at e1
          exact ⟨C.K, a, _, _, dd, e.arg, F1, k, rfl, r1.sub _ _ e1, r1.sub, e2, T, kit1 hk, fin_d r1 h4 (.bl k)⟩⟩
/-- isinstance(e, T): T a builtin class -/
def mIsVD (cat : Cat) (ma : Ev) : Ev := mIsD cat ma
theorem s_isVD {T : String} {cat : Cat} (B0 : C.K = X.K) (hg : Gl X "isinstance") (hm : X.mg "isinstance" = none) (ha : PE X a (tM C ma)) (hg2 : Gl X y) (hm2 : X.mg y = none) (hv : bootBuiltins y = some (.type T)) (hE : ∀ z k, cat.lookup z = some k → ErrC X.K (He.ga X.K z) ∧ PySem.W.kitAny X.K (.ref (He.ga X.K z)) [.type T] = some k)
    (hn : y ≠ "__name__" := by decide) (hd : (y == ("__debug__" : Str)) = false := by decide)
    (he : starEach [a, .Name y p2] X.env = (false, eval a X.env) :: starEach [.Name y p2] X.env := by rfl) (hpl : (backTo pos (starEach [.Name y p2] X.env)).any (·.1) = false := by rfl) (he2 : starEach [.Name y p2] X.env = (false, eval (.Name y p2) X.env) :: starEach [] X.env := by rfl) :
    PE X (.Call (.Name "isinstance" p) [a, .Name y p2] [] pos) (tM C (mIsVD cat ma)) :=
  (pe_callB call_isOV hg hm boot_isi (pa_cons (pv_frz ha) (pa_cons (pe_bltn (v := .ty T) hg2 hm2 hv rfl hn hd) pa_nil he2) he) (by decide) (by decide) he hpl).imp fun σ H Q ⟨ρ, st, μ, F, h1, h2, h3⟩ => ⟨ρ, st, μ, F, h1, h2, Post.bindV gE_lat h3 fun x s v μ1 F1 H1 x1 r1 k1 h4 => by
    cases x with
    | c _ => exact False.elim h4
    | s _ => exact False.elim h4
    | o _ => exact False.elim h4
    | d d =>
      cases q0 : erV d with
      | none => simp only [q0] at h4; exact False.elim h4
      | some e =>
        simp only [q0] at h4
        cases q : cat.lookup e.cls with
        | none => simp only [q] at h4; exact False.elim h4
        | some k =>
          simp only [q] at h4
          have k1 : Dq C.K F1 v d := k1
          rw [erV_of q0] at k1
          obtain ⟨a, dd, rfl, e1, e2⟩ := dq_er k1
          obtain ⟨T, hk⟩ := hE _ _ q
          rw [B0] at e1
          exact ⟨C.K, a, _, dd, e.arg, F1, k, rfl, r1.sub _ _ e1, r1.sub, e2, T, kit1 hk, fin_d r1 h4 (.bl k)⟩⟩
/-- e.f: the field of an error that is data -/
def mErFD (zs : List Str) (f : Str) (ma : Ev) : Ev := fun ρ st => (mV ma ρ st).bind fun x s => match x with
  | .d d => match erV d with
    | some ⟨c, some (g, y)⟩ => if g = f ∧ c ∈ zs then .ok (.d y) s else .no
    | _ => .no
  | _ => .no
theorem s_erFD {zs : List Str} (B0 : C.K = X.K) (ha : PE X a (tM C ma)) (hE : ∀ z, z ∈ zs → ErrC X.K (He.ga X.K z) ∧ PySem.W.findIn X.K (.ref (He.ga X.K z)) f = some none) (hb : attributeBase a f X.env (eval a X.env) = eval a X.env := by rfl) :
    PE X (.Attribute a f pos) (tM C (mErFD zs f ma)) := by
  refine ⟨fun pins s σ H Q I ⟨ρ, st, μ, F, h1, h2, h3⟩ => ?_⟩
  refine attr_of hb (thn ((pv_frz ha).run pins s σ H _ I ⟨ρ, st, μ, F, h1, h2, Post.bindV gE_lat h3 fun x s v μ1 F1 H1 x1 r1 k1 h4 => (⟨x, s, μ1, F1, r1, k1, h4⟩ : ∃ x s μ1 F1, SR C.K μ1 F1 H1 s ∧ Vok C.K F1 μ1 x v ∧ Post (C.at σ) (gE (C.at σ) Q) μ1 F1 H1 (match x with
      | .d d => match erV d with
        | some ⟨c, some (g, y)⟩ => if g = f ∧ c ∈ zs then .ok (.d y) s else .no
        | _ => .no
      | _ => .no))⟩) fun u s1 hh => ?_)
  obtain ⟨v, H1, I1, rv, x, st1, μ1, F1, r1, k1, h4⟩ := hh
  cases x with
  | c _ => exact False.elim h4
  | s _ => exact False.elim h4
  | o _ => exact False.elim h4
  | d d =>
  cases q0 : erV d with
  | none => simp only [q0] at h4; exact False.elim h4
  | some e =>
  obtain ⟨c, arg⟩ := e
  cases arg with
  | none => simp only [q0] at h4; exact False.elim h4
  | some gy =>
    obtain ⟨g, y⟩ := gy
    simp only [q0] at h4
    by_cases hc : g = f ∧ c ∈ zs
    · simp only [if_pos hc] at h4
      have k1 : Dq C.K F1 v d := k1
      rw [erV_of q0] at k1
      obtain ⟨a, dd, rfl, e1, d, w', rfl, e3, e4⟩ := dq_er k1
      cases (show u = Value.ref a from rv)
      obtain ⟨T, hno⟩ := hE c hc.2
      rw [B0] at e1
      have ok : ObjOk X.prog X.w H1 s1.heap a (.ext fun h => ∃ oe vs, h.get? a = some oe ∧ Zc (.ref (He.ga X.K c)) (some d) oe ∧ oe.data = .fields vs) := I1.hok a _ (r1.sub _ _ e1)
      obtain ⟨⟨oe, vs, g1, g2, g3⟩, _⟩ := ok
      have hx : ObjOk X.prog X.w H1 s1.heap d (.xd [(g, w')]) := I1.hok d _ (r1.sub _ _ e3)
      obtain ⟨mA, hns, hr⟩ := hx
      obtain ⟨od, ho, hl⟩ := lookIn_ns hns
      have lk : List.lookup f [(g, w')] = some w' := by rw [hc.1]; simp [List.lookup]
      obtain ⟨u, hu, ru⟩ := RelO.some_of (v := w') (o := mA f) (by rw [← lk]; exact hr f)
      have J : PySem.W.InstAt s1.heap a oe (He.ga X.K c) (some od) := ⟨g1, g2.1, by unfold PySem.W.notCls; rw [g3] <;> rfl, by rw [g2.2]; exact ho⟩
      exact HandSPX.exc_get I1.kIn J T.ga T.gt T.su (PySem.W.findObj_own T.hd hno rfl (by rw [hl, hu])) (handed_of ru) ⟨w', H1, I1.tok _, ru, fin_d r1 h4 e4⟩
    · simp only [if_neg hc] at h4
      exact False.elim h4
variable {E : Er → Sto → Prop} {ρ : En} {st : Sto} {PE' : Rv → Sto → Prop} {cat : Cat} {mas : En → Sto → Res (List Vl)}
@[simp] theorem W_mErV0 (x : Str) : WVe E (mErV0 x ρ st) PE' = PE' (.d (erD x none)) st := rfl
@[simp] theorem W_mErV1 (x f : Str) : WVe E (mErV1 x f mas ρ st) PE' = WVe E (mas ρ st) fun xs s => match xs with
    | [.d y] => PE' (.d (erD x (some (f, y)))) s
    | _ => False := by
  unfold mErV1; rw [WV_bind]
  congr 1; funext xs s
  split <;> first | rfl | (split <;> first | rfl | simp_all)
@[simp] theorem W_mIsD : WVe E (mIsD cat ma ρ st) PE' = WVe E (ma ρ st) fun r s => match frz r with
    | .d d => WO (erV d) fun e => WO (cat.lookup e.cls) fun k => PE' (.d (.bool k)) s
    | _ => False := by
  unfold mIsD; rw [WV_bind, W_mV]
  congr 1; funext r s
  generalize frz r = z
  cases z with
  | d d =>
    dsimp only
    cases erV d with
    | none => rfl
    | some e =>
      simp only [WO_some]
      cases cat.lookup e.cls <;> rfl
  | _ => rfl
@[simp] theorem W_mIsVD : WVe E (mIsVD cat ma ρ st) PE' = WVe E (ma ρ st) fun r s => match frz r with
    | .d d => WO (erV d) fun e => WO (cat.lookup e.cls) fun k => PE' (.d (.bool k)) s
    | _ => False := W_mIsD
@[simp] theorem W_mErFD {zs : List Str} {f : Str} : WVe E (mErFD zs f ma ρ st) PE' = WVe E (ma ρ st) fun r s => match frz r with
    | .d d => WO (erV d) fun e => WO e.arg fun gy => gy.1 = f ∧ e.cls ∈ zs ∧ PE' (.d gy.2) s
    | _ => False := by
  unfold mErFD; rw [WV_bind, W_mV]
  congr 1; funext r s
  generalize frz r = z
  cases z with
  | d d =>
    dsimp only
    cases erV d with
    | none => rfl
    | some e =>
      obtain ⟨c, arg⟩ := e
      cases arg with
      | none => rfl
      | some gy =>
        obtain ⟨g, y⟩ := gy
        dsimp only
        by_cases hc : g = f ∧ c ∈ zs
        · rw [if_pos hc]; simp [WVe, hc]
        · rw [if_neg hc]
          show False = (g = f ∧ c ∈ zs ∧ PE' (.d y) s)
          simp only [eq_iff_iff, false_iff]
          exact fun h => hc ⟨h.1, h.2.1⟩
  | _ => rfl
end
end Cp
namespace K12
open PySem PySem.Spec PyProof.Rows L2 Cp
def top (i : Nat) : Stmt := PySem.Challenge.pw_callpolicy_k12_errors.main.body.getD i (.Pass ⟨0, 0, 0, 0⟩)
abbrev st__law_urn : Stmt := top 15
abbrev st__law_next : Stmt := top 16
abbrev st__law_kinds : Stmt := top 17
abbrev st__law_made : Stmt := top 18
abbrev st_law : Stmt := top 19
section
variable {P : Program} {w : World} {K : PySem.W.Frag} {mg : Str → Option Value} {base : Heap}
noncomputable def sb__law_urn : Sv := (sSeq (sAsg (gNm 2) (mV (mBin fAdd (mBin fMulA (mK (.int 13)) (mN 1)) (mK (.int 5))))) (sSeq (sIf (mCmp (gI fun i j => decide (i < j)) (mN 1) (mCal (gLen) (aCons (mV (mN 0)) aNil))) (sAsg (gNm 2) (mV (mSix (mN 0) (mN 1)))) sNil) (sSeq (sAsg (gNm 3) (mV (mBin fMulA (mBin (fI pPos fun i j => i % j) (mCal (g1 fAbs) (aCons (mV (mN 2)) aNil)) (mBin (fI pPow fun i j => i ^ j.toNat) (mBin (fI pPow fun i j => i ^ j.toNat) (mK (.int 10)) (mK (.int 60))) (mK (.int 5)))) (mCal (g1 fInt) (aCons (mV (bV (mCmp (gI fun i j => decide (j ≤ i)) (mCal (g1 fAbs) (aCons (mV (mN 2)) aNil)) (mBin (fI pPow fun i j => i ^ j.toNat) (mK (.int 10)) (mK (.int 18)))))) aNil))))) (sRet (mLst (aCons (mV (mN 3)) (aCons (mV (mBin (fI pPos fun i j => i % j) (mBin fAdd (mBin fAdd (mBin fMulA (mBin (fI pPos fun i j => i % j) (mN 2) (mK (.int 2305843009213693951))) (mK (.int 69859))) (mBin fMulA (mBin fMulA (mK (.int 5003)) (mN 1)) (mN 1))) (mK (.int 83))) (mK (.int 2305843009213693907)))) (aCons (mV (mK (.int 0))) aNil))))))))
noncomputable def sem__law_urn : Fs := bodyF 4 2 sb__law_urn
theorem kn__law_urn (D : Df K mg "_law_urn" st__law_urn) (m_abs : mg "abs" = none) (m_int : mg "int" = none) (m_len : mg "len" = none) : Kn P w K mg base "_law_urn" 1 sem__law_urn :=
  kn_def (k := 0) (N := ["_law_script", "_law_k", "_law_cell", "_law_own"]) (ps := ["_law_script", "_law_k"]) (sb := sb__law_urn) D ⟨rfl, rfl, rfl, by decide +kernel, rfl, by decide +kernel, by decide +kernel⟩ (fun _ _ _ _ _ _ us hl => match us, hl with | [_, _], _ => rfl) (fun cdv f A outer s H E B =>
    (x_cons (x_asg (pv_frz (s_add (s_mulA s_int (s_name (pv 1))) s_int)) (t_name (pg_name (i := 2) B.nd rfl (by first | exact .inl rfl | exact .inr rfl)))) (x_cons (x_if (t_lt (s_name (pv 1)) (k_len B (by rfl) m_len (a_cons (s_name (pv 0)) a_nil))) (x_one (x_asg (pv_frz (s_six B.hK (s_name (pv 0)) (s_name (pv 1)) (fun _ _ => rfl))) (t_name (pg_name (i := 2) B.nd rfl (by first | exact .inl rfl | exact .inr rfl))))) x_nil) (x_cons (x_asg (pv_frz (s_mulA (s_mod (k_abs (by rfl) m_abs (a_cons (s_name (pv 2)) a_nil)) (s_pow (s_pow s_int s_int) s_int)) (k_int (by rfl) m_int (a_cons (v_ge (k_abs (by rfl) m_abs (a_cons (s_name (pv 2)) a_nil)) (s_pow s_int s_int)) a_nil)))) (t_name (pg_name (i := 3) B.nd rfl (by first | exact .inl rfl | exact .inr rfl)))) (x_one (x_ret (s_lst (a_cons (s_name (pv 3)) (a_cons (s_mod (s_add (s_add (s_mulA (s_mod (s_name (pv 2)) s_int) s_int) (s_mulA (s_mulA s_int (s_name (pv 1))) (s_name (pv 1)))) s_int) s_int) (a_cons s_int a_nil))))))))))
noncomputable def sb__law_next : Sv := (sSeq (sIf (mCmp (gI fun i j => decide (j < i)) (mBin fIx (mN 0) (mK (.int 0))) (mK (.int 0))) (sSeq (sAsg (gNm 2) (mV (mBin (fI pPos fun i j => i % j) (mBin fIx (mN 0) (mK (.int 0))) (mN 1)))) (sSeq (sAsg (gPl (mN 0) (mK (.int 0))) (mV (mBin (fI pDiv fun i j => i / j) (mBin fIx (mN 0) (mK (.int 0))) (mN 1)))) (sRet (mN 2)))) sNil) (sSeq (sAsg (gPl (mN 0) (mK (.int 2))) (mV (mBin fAdd (mBin fIx (mN 0) (mK (.int 2))) (mK (.int 1))))) (sSeq (sAsg (gNm 3) (mV (mBin (fI pPos fun i j => i % j) (mBin fMulA (mBin fAdd (mBin fAdd (mBin fIx (mN 0) (mK (.int 1))) (mBin fMulA (mBin fMulA (mK (.int 30011)) (mBin fIx (mN 0) (mK (.int 2)))) (mBin fIx (mN 0) (mK (.int 2))))) (mK (.int 19))) (mK (.int 69877))) (mK (.int 2305843009213693921))))) (sSeq (sAsg (gNm 3) (mV (mBin (fI pPos fun i j => i % j) (mBin fMulA (mN 3) (mBin fAdd (mBin fAdd (mBin (fI pPos fun i j => i % j) (mN 3) (mK (.int 1000039))) (mBin fMulA (mK (.int 60013)) (mBin fIx (mN 0) (mK (.int 2))))) (mK (.int 5)))) (mK (.int 2305843009213693951))))) (sRet (mBin (fI pPos fun i j => i % j) (mBin fAdd (mBin (fI pDiv fun i j => i / j) (mN 3) (mK (.int 103))) (mBin (fI pDiv fun i j => i / j) (mN 3) (mK (.int 999979)))) (mN 1)))))))
noncomputable def sem__law_next : Fs := bodyF 4 2 sb__law_next
theorem kn__law_next (D : Df K mg "_law_next" st__law_next) : Kn P w K mg base "_law_next" 1 sem__law_next :=
  kn_def (k := 0) (N := ["_law_urn_here", "_law_below", "_law_digit", "_law_blend"]) (ps := ["_law_urn_here", "_law_below"]) (sb := sb__law_next) D ⟨rfl, rfl, rfl, by decide +kernel, rfl, by decide +kernel, by decide +kernel⟩ (fun _ _ _ _ _ _ us hl => match us, hl with | [_, _], _ => rfl) (fun cdv f A outer s H E B =>
    (x_cons (x_if (t_gt (s_ix (s_name (pv 0)) s_int (fun _ _ => rfl)) s_int) (x_cons (x_asg (pv_frz (s_mod (s_ix (s_name (pv 0)) s_int (fun _ _ => rfl)) (s_name (pv 1)))) (t_name (pg_name (i := 2) B.nd rfl (by first | exact .inl rfl | exact .inr rfl)))) (x_cons (x_asg (pv_frz (s_fdiv (s_ix (s_name (pv 0)) s_int (fun _ _ => rfl)) (s_name (pv 1)))) (t_pl (s_name (pv 0)) s_int)) (x_one (x_ret (s_name (pv 2)))))) x_nil) (x_cons (x_asg (pv_frz (s_add (s_ix (s_name (pv 0)) s_int (fun _ _ => rfl)) s_int)) (t_pl (s_name (pv 0)) s_int)) (x_cons (x_asg (pv_frz (s_mod (s_mulA (s_add (s_add (s_ix (s_name (pv 0)) s_int (fun _ _ => rfl)) (s_mulA (s_mulA s_int (s_ix (s_name (pv 0)) s_int (fun _ _ => rfl))) (s_ix (s_name (pv 0)) s_int (fun _ _ => rfl)))) s_int) s_int) s_int)) (t_name (pg_name (i := 3) B.nd rfl (by first | exact .inl rfl | exact .inr rfl)))) (x_cons (x_asg (pv_frz (s_mod (s_mulA (s_name (pv 3)) (s_add (s_add (s_mod (s_name (pv 3)) s_int) (s_mulA s_int (s_ix (s_name (pv 0)) s_int (fun _ _ => rfl)))) s_int)) s_int)) (t_name (pg_name (i := 3) B.nd rfl (by first | exact .inl rfl | exact .inr rfl)))) (x_one (x_ret (s_mod (s_add (s_fdiv (s_name (pv 3)) s_int) (s_fdiv (s_name (pv 3)) s_int)) (s_name (pv 1))))))))))
noncomputable def sb__law_kinds : Sv := (sSeq (sAsg (gNm 1) (mV (mLst (aCons (mV (mIsD [("PolicyError", false), ("InvalidPolicy", true), ("NoPart", false), ("InvalidBehaviour", false), ("Impossible", false), ("DifferentForms", false), ("TooManyKeys", false), ("TooManySpans", false), ("TooManyEndings", false), ("TooLong", false), ("NothingToUndo", false), ("ParseError", false), ("CommandError", false)] (mN 0))) (aCons (mV (mIsD [("PolicyError", false), ("InvalidPolicy", false), ("NoPart", true), ("InvalidBehaviour", false), ("Impossible", false), ("DifferentForms", false), ("TooManyKeys", false), ("TooManySpans", false), ("TooManyEndings", false), ("TooLong", false), ("NothingToUndo", false), ("ParseError", false), ("CommandError", false)] (mN 0))) (aCons (mV (mIsD [("PolicyError", false), ("InvalidPolicy", false), ("NoPart", false), ("InvalidBehaviour", true), ("Impossible", false), ("DifferentForms", false), ("TooManyKeys", false), ("TooManySpans", false), ("TooManyEndings", false), ("TooLong", false), ("NothingToUndo", false), ("ParseError", false), ("CommandError", false)] (mN 0))) aNil)))))) (sSeq (sAsg (gNm 1) (mV (mBin fAdd (mN 1) (mLst (aCons (mV (mIsD [("PolicyError", false), ("InvalidPolicy", false), ("NoPart", false), ("InvalidBehaviour", false), ("Impossible", true), ("DifferentForms", false), ("TooManyKeys", false), ("TooManySpans", false), ("TooManyEndings", false), ("TooLong", false), ("NothingToUndo", false), ("ParseError", false), ("CommandError", false)] (mN 0))) (aCons (mV (mIsD [("PolicyError", false), ("InvalidPolicy", false), ("NoPart", false), ("InvalidBehaviour", false), ("Impossible", false), ("DifferentForms", false), ("TooManyKeys", false), ("TooManySpans", false), ("TooManyEndings", false), ("TooLong", true), ("NothingToUndo", false), ("ParseError", false), ("CommandError", false)] (mN 0))) (aCons (mV (mIsD [("PolicyError", false), ("InvalidPolicy", false), ("NoPart", false), ("InvalidBehaviour", false), ("Impossible", false), ("DifferentForms", false), ("TooManyKeys", false), ("TooManySpans", false), ("TooManyEndings", false), ("TooLong", false), ("NothingToUndo", false), ("ParseError", true), ("CommandError", false)] (mN 0))) aNil))))))) (sSeq (sAsg (gNm 1) (mV (mBin fAdd (mN 1) (mLst (aCons (mV (mIsD [("PolicyError", false), ("InvalidPolicy", false), ("NoPart", false), ("InvalidBehaviour", false), ("Impossible", false), ("DifferentForms", false), ("TooManyKeys", false), ("TooManySpans", false), ("TooManyEndings", false), ("TooLong", false), ("NothingToUndo", false), ("ParseError", false), ("CommandError", true)] (mN 0))) (aCons (mV (mIsD [("PolicyError", false), ("InvalidPolicy", false), ("NoPart", false), ("InvalidBehaviour", false), ("Impossible", false), ("DifferentForms", true), ("TooManyKeys", false), ("TooManySpans", false), ("TooManyEndings", false), ("TooLong", false), ("NothingToUndo", false), ("ParseError", false), ("CommandError", false)] (mN 0))) aNil)))))) (sSeq (sAsg (gNm 1) (mV (mBin fAdd (mN 1) (mLst (aCons (mV (mIsD [("PolicyError", false), ("InvalidPolicy", false), ("NoPart", false), ("InvalidBehaviour", false), ("Impossible", false), ("DifferentForms", false), ("TooManyKeys", true), ("TooManySpans", false), ("TooManyEndings", false), ("TooLong", false), ("NothingToUndo", false), ("ParseError", false), ("CommandError", false)] (mN 0))) (aCons (mV (mIsD [("PolicyError", false), ("InvalidPolicy", false), ("NoPart", false), ("InvalidBehaviour", false), ("Impossible", false), ("DifferentForms", false), ("TooManyKeys", false), ("TooManySpans", true), ("TooManyEndings", false), ("TooLong", false), ("NothingToUndo", false), ("ParseError", false), ("CommandError", false)] (mN 0))) aNil)))))) (sRet (mBin fAdd (mN 1) (mLst (aCons (mV (mIsD [("PolicyError", false), ("InvalidPolicy", false), ("NoPart", false), ("InvalidBehaviour", false), ("Impossible", false), ("DifferentForms", false), ("TooManyKeys", false), ("TooManySpans", false), ("TooManyEndings", true), ("TooLong", false), ("NothingToUndo", false), ("ParseError", false), ("CommandError", false)] (mN 0))) (aCons (mV (mIsD [("PolicyError", false), ("InvalidPolicy", false), ("NoPart", false), ("InvalidBehaviour", false), ("Impossible", false), ("DifferentForms", false), ("TooManyKeys", false), ("TooManySpans", false), ("TooManyEndings", false), ("TooLong", false), ("NothingToUndo", true), ("ParseError", false), ("CommandError", false)] (mN 0))) aNil)))))))))
noncomputable def sem__law_kinds : Fs := bodyF 2 1 sb__law_kinds
theorem kn__law_kinds (D : Df K mg "_law_kinds" st__law_kinds) (m_isinstance : mg "isinstance" = none) (err_CommandError : ErrC K (He.ga K "CommandError")) (err_DifferentForms : ErrC K (He.ga K "DifferentForms")) (err_Impossible : ErrC K (He.ga K "Impossible")) (err_InvalidBehaviour : ErrC K (He.ga K "InvalidBehaviour")) (err_InvalidPolicy : ErrC K (He.ga K "InvalidPolicy")) (err_NoPart : ErrC K (He.ga K "NoPart")) (err_NothingToUndo : ErrC K (He.ga K "NothingToUndo")) (err_ParseError : ErrC K (He.ga K "ParseError")) (err_PolicyError : ErrC K (He.ga K "PolicyError")) (err_TooLong : ErrC K (He.ga K "TooLong")) (err_TooManyEndings : ErrC K (He.ga K "TooManyEndings")) (err_TooManyKeys : ErrC K (He.ga K "TooManyKeys")) (err_TooManySpans : ErrC K (He.ga K "TooManySpans")) (g_CommandError : mg "CommandError" = some (.ref (He.ga K "CommandError"))) (g_DifferentForms : mg "DifferentForms" = some (.ref (He.ga K "DifferentForms"))) (g_Impossible : mg "Impossible" = some (.ref (He.ga K "Impossible"))) (g_InvalidBehaviour : mg "InvalidBehaviour" = some (.ref (He.ga K "InvalidBehaviour"))) (g_InvalidPolicy : mg "InvalidPolicy" = some (.ref (He.ga K "InvalidPolicy"))) (g_NoPart : mg "NoPart" = some (.ref (He.ga K "NoPart"))) (g_NothingToUndo : mg "NothingToUndo" = some (.ref (He.ga K "NothingToUndo"))) (g_ParseError : mg "ParseError" = some (.ref (He.ga K "ParseError"))) (g_TooLong : mg "TooLong" = some (.ref (He.ga K "TooLong"))) (g_TooManyEndings : mg "TooManyEndings" = some (.ref (He.ga K "TooManyEndings"))) (g_TooManyKeys : mg "TooManyKeys" = some (.ref (He.ga K "TooManyKeys"))) (g_TooManySpans : mg "TooManySpans" = some (.ref (He.ga K "TooManySpans"))) (isN_CommandError : PySem.W.kitAny K (.type "NoneType") [.ref (He.ga K "CommandError")] = some false) (isN_DifferentForms : PySem.W.kitAny K (.type "NoneType") [.ref (He.ga K "DifferentForms")] = some false) (isN_Impossible : PySem.W.kitAny K (.type "NoneType") [.ref (He.ga K "Impossible")] = some false) (isN_InvalidBehaviour : PySem.W.kitAny K (.type "NoneType") [.ref (He.ga K "InvalidBehaviour")] = some false) (isN_InvalidPolicy : PySem.W.kitAny K (.type "NoneType") [.ref (He.ga K "InvalidPolicy")] = some false) (isN_NoPart : PySem.W.kitAny K (.type "NoneType") [.ref (He.ga K "NoPart")] = some false) (isN_NothingToUndo : PySem.W.kitAny K (.type "NoneType") [.ref (He.ga K "NothingToUndo")] = some false) (isN_ParseError : PySem.W.kitAny K (.type "NoneType") [.ref (He.ga K "ParseError")] = some false) (isN_TooLong : PySem.W.kitAny K (.type "NoneType") [.ref (He.ga K "TooLong")] = some false) (isN_TooManyEndings : PySem.W.kitAny K (.type "NoneType") [.ref (He.ga K "TooManyEndings")] = some false) (isN_TooManyKeys : PySem.W.kitAny K (.type "NoneType") [.ref (He.ga K "TooManyKeys")] = some false) (isN_TooManySpans : PySem.W.kitAny K (.type "NoneType") [.ref (He.ga K "TooManySpans")] = some false) (is_CommandError_CommandError : PySem.W.kitAny K (.ref (He.ga K "CommandError")) [.ref (He.ga K "CommandError")] = some true) (is_CommandError_DifferentForms : PySem.W.kitAny K (.ref (He.ga K "CommandError")) [.ref (He.ga K "DifferentForms")] = some false) (is_CommandError_Impossible : PySem.W.kitAny K (.ref (He.ga K "CommandError")) [.ref (He.ga K "Impossible")] = some false) (is_CommandError_InvalidBehaviour : PySem.W.kitAny K (.ref (He.ga K "CommandError")) [.ref (He.ga K "InvalidBehaviour")] = some false) (is_CommandError_InvalidPolicy : PySem.W.kitAny K (.ref (He.ga K "CommandError")) [.ref (He.ga K "InvalidPolicy")] = some false) (is_CommandError_NoPart : PySem.W.kitAny K (.ref (He.ga K "CommandError")) [.ref (He.ga K "NoPart")] = some false) (is_CommandError_NothingToUndo : PySem.W.kitAny K (.ref (He.ga K "CommandError")) [.ref (He.ga K "NothingToUndo")] = some false) (is_CommandError_ParseError : PySem.W.kitAny K (.ref (He.ga K "CommandError")) [.ref (He.ga K "ParseError")] = some false) (is_CommandError_TooLong : PySem.W.kitAny K (.ref (He.ga K "CommandError")) [.ref (He.ga K "TooLong")] = some false) (is_CommandError_TooManyEndings : PySem.W.kitAny K (.ref (He.ga K "CommandError")) [.ref (He.ga K "TooManyEndings")] = some false) (is_CommandError_TooManyKeys : PySem.W.kitAny K (.ref (He.ga K "CommandError")) [.ref (He.ga K "TooManyKeys")] = some false) (is_CommandError_TooManySpans : PySem.W.kitAny K (.ref (He.ga K "CommandError")) [.ref (He.ga K "TooManySpans")] = some false) (is_DifferentForms_CommandError : PySem.W.kitAny K (.ref (He.ga K "DifferentForms")) [.ref (He.ga K "CommandError")] = some false) (is_DifferentForms_DifferentForms : PySem.W.kitAny K (.ref (He.ga K "DifferentForms")) [.ref (He.ga K "DifferentForms")] = some true) (is_DifferentForms_Impossible : PySem.W.kitAny K (.ref (He.ga K "DifferentForms")) [.ref (He.ga K "Impossible")] = some false) (is_DifferentForms_InvalidBehaviour : PySem.W.kitAny K (.ref (He.ga K "DifferentForms")) [.ref (He.ga K "InvalidBehaviour")] = some false) (is_DifferentForms_InvalidPolicy : PySem.W.kitAny K (.ref (He.ga K "DifferentForms")) [.ref (He.ga K "InvalidPolicy")] = some false) (is_DifferentForms_NoPart : PySem.W.kitAny K (.ref (He.ga K "DifferentForms")) [.ref (He.ga K "NoPart")] = some false) (is_DifferentForms_NothingToUndo : PySem.W.kitAny K (.ref (He.ga K "DifferentForms")) [.ref (He.ga K "NothingToUndo")] = some false) (is_DifferentForms_ParseError : PySem.W.kitAny K (.ref (He.ga K "DifferentForms")) [.ref (He.ga K "ParseError")] = some false) (is_DifferentForms_TooLong : PySem.W.kitAny K (.ref (He.ga K "DifferentForms")) [.ref (He.ga K "TooLong")] = some false) (is_DifferentForms_TooManyEndings : PySem.W.kitAny K (.ref (He.ga K "DifferentForms")) [.ref (He.ga K "TooManyEndings")] = some false) (is_DifferentForms_TooManyKeys : PySem.W.kitAny K (.ref (He.ga K "DifferentForms")) [.ref (He.ga K "TooManyKeys")] = some false) (is_DifferentForms_TooManySpans : PySem.W.kitAny K (.ref (He.ga K "DifferentForms")) [.ref (He.ga K "TooManySpans")] = some false) (is_Impossible_CommandError : PySem.W.kitAny K (.ref (He.ga K "Impossible")) [.ref (He.ga K "CommandError")] = some false) (is_Impossible_DifferentForms : PySem.W.kitAny K (.ref (He.ga K "Impossible")) [.ref (He.ga K "DifferentForms")] = some false) (is_Impossible_Impossible : PySem.W.kitAny K (.ref (He.ga K "Impossible")) [.ref (He.ga K "Impossible")] = some true) (is_Impossible_InvalidBehaviour : PySem.W.kitAny K (.ref (He.ga K "Impossible")) [.ref (He.ga K "InvalidBehaviour")] = some false) (is_Impossible_InvalidPolicy : PySem.W.kitAny K (.ref (He.ga K "Impossible")) [.ref (He.ga K "InvalidPolicy")] = some false) (is_Impossible_NoPart : PySem.W.kitAny K (.ref (He.ga K "Impossible")) [.ref (He.ga K "NoPart")] = some false) (is_Impossible_NothingToUndo : PySem.W.kitAny K (.ref (He.ga K "Impossible")) [.ref (He.ga K "NothingToUndo")] = some false) (is_Impossible_ParseError : PySem.W.kitAny K (.ref (He.ga K "Impossible")) [.ref (He.ga K "ParseError")] = some false) (is_Impossible_TooLong : PySem.W.kitAny K (.ref (He.ga K "Impossible")) [.ref (He.ga K "TooLong")] = some false) (is_Impossible_TooManyEndings : PySem.W.kitAny K (.ref (He.ga K "Impossible")) [.ref (He.ga K "TooManyEndings")] = some false) (is_Impossible_TooManyKeys : PySem.W.kitAny K (.ref (He.ga K "Impossible")) [.ref (He.ga K "TooManyKeys")] = some false) (is_Impossible_TooManySpans : PySem.W.kitAny K (.ref (He.ga K "Impossible")) [.ref (He.ga K "TooManySpans")] = some false) (is_InvalidBehaviour_CommandError : PySem.W.kitAny K (.ref (He.ga K "InvalidBehaviour")) [.ref (He.ga K "CommandError")] = some false) (is_InvalidBehaviour_DifferentForms : PySem.W.kitAny K (.ref (He.ga K "InvalidBehaviour")) [.ref (He.ga K "DifferentForms")] = some false) (is_InvalidBehaviour_Impossible : PySem.W.kitAny K (.ref (He.ga K "InvalidBehaviour")) [.ref (He.ga K "Impossible")] = some false) (is_InvalidBehaviour_InvalidBehaviour : PySem.W.kitAny K (.ref (He.ga K "InvalidBehaviour")) [.ref (He.ga K "InvalidBehaviour")] = some true) (is_InvalidBehaviour_InvalidPolicy : PySem.W.kitAny K (.ref (He.ga K "InvalidBehaviour")) [.ref (He.ga K "InvalidPolicy")] = some false) (is_InvalidBehaviour_NoPart : PySem.W.kitAny K (.ref (He.ga K "InvalidBehaviour")) [.ref (He.ga K "NoPart")] = some false) (is_InvalidBehaviour_NothingToUndo : PySem.W.kitAny K (.ref (He.ga K "InvalidBehaviour")) [.ref (He.ga K "NothingToUndo")] = some false) (is_InvalidBehaviour_ParseError : PySem.W.kitAny K (.ref (He.ga K "InvalidBehaviour")) [.ref (He.ga K "ParseError")] = some false) (is_InvalidBehaviour_TooLong : PySem.W.kitAny K (.ref (He.ga K "InvalidBehaviour")) [.ref (He.ga K "TooLong")] = some false) (is_InvalidBehaviour_TooManyEndings : PySem.W.kitAny K (.ref (He.ga K "InvalidBehaviour")) [.ref (He.ga K "TooManyEndings")] = some false) (is_InvalidBehaviour_TooManyKeys : PySem.W.kitAny K (.ref (He.ga K "InvalidBehaviour")) [.ref (He.ga K "TooManyKeys")] = some false) (is_InvalidBehaviour_TooManySpans : PySem.W.kitAny K (.ref (He.ga K "InvalidBehaviour")) [.ref (He.ga K "TooManySpans")] = some false) (is_InvalidPolicy_CommandError : PySem.W.kitAny K (.ref (He.ga K "InvalidPolicy")) [.ref (He.ga K "CommandError")] = some false) (is_InvalidPolicy_DifferentForms : PySem.W.kitAny K (.ref (He.ga K "InvalidPolicy")) [.ref (He.ga K "DifferentForms")] = some false) (is_InvalidPolicy_Impossible : PySem.W.kitAny K (.ref (He.ga K "InvalidPolicy")) [.ref (He.ga K "Impossible")] = some false) (is_InvalidPolicy_InvalidBehaviour : PySem.W.kitAny K (.ref (He.ga K "InvalidPolicy")) [.ref (He.ga K "InvalidBehaviour")] = some false) (is_InvalidPolicy_InvalidPolicy : PySem.W.kitAny K (.ref (He.ga K "InvalidPolicy")) [.ref (He.ga K "InvalidPolicy")] = some true) (is_InvalidPolicy_NoPart : PySem.W.kitAny K (.ref (He.ga K "InvalidPolicy")) [.ref (He.ga K "NoPart")] = some false) (is_InvalidPolicy_NothingToUndo : PySem.W.kitAny K (.ref (He.ga K "InvalidPolicy")) [.ref (He.ga K "NothingToUndo")] = some false) (is_InvalidPolicy_ParseError : PySem.W.kitAny K (.ref (He.ga K "InvalidPolicy")) [.ref (He.ga K "ParseError")] = some false) (is_InvalidPolicy_TooLong : PySem.W.kitAny K (.ref (He.ga K "InvalidPolicy")) [.ref (He.ga K "TooLong")] = some false) (is_InvalidPolicy_TooManyEndings : PySem.W.kitAny K (.ref (He.ga K "InvalidPolicy")) [.ref (He.ga K "TooManyEndings")] = some false) (is_InvalidPolicy_TooManyKeys : PySem.W.kitAny K (.ref (He.ga K "InvalidPolicy")) [.ref (He.ga K "TooManyKeys")] = some false) (is_InvalidPolicy_TooManySpans : PySem.W.kitAny K (.ref (He.ga K "InvalidPolicy")) [.ref (He.ga K "TooManySpans")] = some false) (is_NoPart_CommandError : PySem.W.kitAny K (.ref (He.ga K "NoPart")) [.ref (He.ga K "CommandError")] = some false) (is_NoPart_DifferentForms : PySem.W.kitAny K (.ref (He.ga K "NoPart")) [.ref (He.ga K "DifferentForms")] = some false) (is_NoPart_Impossible : PySem.W.kitAny K (.ref (He.ga K "NoPart")) [.ref (He.ga K "Impossible")] = some false) (is_NoPart_InvalidBehaviour : PySem.W.kitAny K (.ref (He.ga K "NoPart")) [.ref (He.ga K "InvalidBehaviour")] = some false) (is_NoPart_InvalidPolicy : PySem.W.kitAny K (.ref (He.ga K "NoPart")) [.ref (He.ga K "InvalidPolicy")] = some false) (is_NoPart_NoPart : PySem.W.kitAny K (.ref (He.ga K "NoPart")) [.ref (He.ga K "NoPart")] = some true) (is_NoPart_NothingToUndo : PySem.W.kitAny K (.ref (He.ga K "NoPart")) [.ref (He.ga K "NothingToUndo")] = some false) (is_NoPart_ParseError : PySem.W.kitAny K (.ref (He.ga K "NoPart")) [.ref (He.ga K "ParseError")] = some false) (is_NoPart_TooLong : PySem.W.kitAny K (.ref (He.ga K "NoPart")) [.ref (He.ga K "TooLong")] = some false) (is_NoPart_TooManyEndings : PySem.W.kitAny K (.ref (He.ga K "NoPart")) [.ref (He.ga K "TooManyEndings")] = some false) (is_NoPart_TooManyKeys : PySem.W.kitAny K (.ref (He.ga K "NoPart")) [.ref (He.ga K "TooManyKeys")] = some false) (is_NoPart_TooManySpans : PySem.W.kitAny K (.ref (He.ga K "NoPart")) [.ref (He.ga K "TooManySpans")] = some false) (is_NothingToUndo_CommandError : PySem.W.kitAny K (.ref (He.ga K "NothingToUndo")) [.ref (He.ga K "CommandError")] = some false) (is_NothingToUndo_DifferentForms : PySem.W.kitAny K (.ref (He.ga K "NothingToUndo")) [.ref (He.ga K "DifferentForms")] = some false) (is_NothingToUndo_Impossible : PySem.W.kitAny K (.ref (He.ga K "NothingToUndo")) [.ref (He.ga K "Impossible")] = some false) (is_NothingToUndo_InvalidBehaviour : PySem.W.kitAny K (.ref (He.ga K "NothingToUndo")) [.ref (He.ga K "InvalidBehaviour")] = some false) (is_NothingToUndo_InvalidPolicy : PySem.W.kitAny K (.ref (He.ga K "NothingToUndo")) [.ref (He.ga K "InvalidPolicy")] = some false) (is_NothingToUndo_NoPart : PySem.W.kitAny K (.ref (He.ga K "NothingToUndo")) [.ref (He.ga K "NoPart")] = some false) (is_NothingToUndo_NothingToUndo : PySem.W.kitAny K (.ref (He.ga K "NothingToUndo")) [.ref (He.ga K "NothingToUndo")] = some true) (is_NothingToUndo_ParseError : PySem.W.kitAny K (.ref (He.ga K "NothingToUndo")) [.ref (He.ga K "ParseError")] = some false) (is_NothingToUndo_TooLong : PySem.W.kitAny K (.ref (He.ga K "NothingToUndo")) [.ref (He.ga K "TooLong")] = some false) (is_NothingToUndo_TooManyEndings : PySem.W.kitAny K (.ref (He.ga K "NothingToUndo")) [.ref (He.ga K "TooManyEndings")] = some false) (is_NothingToUndo_TooManyKeys : PySem.W.kitAny K (.ref (He.ga K "NothingToUndo")) [.ref (He.ga K "TooManyKeys")] = some false) (is_NothingToUndo_TooManySpans : PySem.W.kitAny K (.ref (He.ga K "NothingToUndo")) [.ref (He.ga K "TooManySpans")] = some false) (is_ParseError_CommandError : PySem.W.kitAny K (.ref (He.ga K "ParseError")) [.ref (He.ga K "CommandError")] = some false) (is_ParseError_DifferentForms : PySem.W.kitAny K (.ref (He.ga K "ParseError")) [.ref (He.ga K "DifferentForms")] = some false) (is_ParseError_Impossible : PySem.W.kitAny K (.ref (He.ga K "ParseError")) [.ref (He.ga K "Impossible")] = some false) (is_ParseError_InvalidBehaviour : PySem.W.kitAny K (.ref (He.ga K "ParseError")) [.ref (He.ga K "InvalidBehaviour")] = some false) (is_ParseError_InvalidPolicy : PySem.W.kitAny K (.ref (He.ga K "ParseError")) [.ref (He.ga K "InvalidPolicy")] = some false) (is_ParseError_NoPart : PySem.W.kitAny K (.ref (He.ga K "ParseError")) [.ref (He.ga K "NoPart")] = some false) (is_ParseError_NothingToUndo : PySem.W.kitAny K (.ref (He.ga K "ParseError")) [.ref (He.ga K "NothingToUndo")] = some false) (is_ParseError_ParseError : PySem.W.kitAny K (.ref (He.ga K "ParseError")) [.ref (He.ga K "ParseError")] = some true) (is_ParseError_TooLong : PySem.W.kitAny K (.ref (He.ga K "ParseError")) [.ref (He.ga K "TooLong")] = some false) (is_ParseError_TooManyEndings : PySem.W.kitAny K (.ref (He.ga K "ParseError")) [.ref (He.ga K "TooManyEndings")] = some false) (is_ParseError_TooManyKeys : PySem.W.kitAny K (.ref (He.ga K "ParseError")) [.ref (He.ga K "TooManyKeys")] = some false) (is_ParseError_TooManySpans : PySem.W.kitAny K (.ref (He.ga K "ParseError")) [.ref (He.ga K "TooManySpans")] = some false) (is_PolicyError_CommandError : PySem.W.kitAny K (.ref (He.ga K "PolicyError")) [.ref (He.ga K "CommandError")] = some false) (is_PolicyError_DifferentForms : PySem.W.kitAny K (.ref (He.ga K "PolicyError")) [.ref (He.ga K "DifferentForms")] = some false) (is_PolicyError_Impossible : PySem.W.kitAny K (.ref (He.ga K "PolicyError")) [.ref (He.ga K "Impossible")] = some false) (is_PolicyError_InvalidBehaviour : PySem.W.kitAny K (.ref (He.ga K "PolicyError")) [.ref (He.ga K "InvalidBehaviour")] = some false) (is_PolicyError_InvalidPolicy : PySem.W.kitAny K (.ref (He.ga K "PolicyError")) [.ref (He.ga K "InvalidPolicy")] = some false) (is_PolicyError_NoPart : PySem.W.kitAny K (.ref (He.ga K "PolicyError")) [.ref (He.ga K "NoPart")] = some false) (is_PolicyError_NothingToUndo : PySem.W.kitAny K (.ref (He.ga K "PolicyError")) [.ref (He.ga K "NothingToUndo")] = some false) (is_PolicyError_ParseError : PySem.W.kitAny K (.ref (He.ga K "PolicyError")) [.ref (He.ga K "ParseError")] = some false) (is_PolicyError_TooLong : PySem.W.kitAny K (.ref (He.ga K "PolicyError")) [.ref (He.ga K "TooLong")] = some false) (is_PolicyError_TooManyEndings : PySem.W.kitAny K (.ref (He.ga K "PolicyError")) [.ref (He.ga K "TooManyEndings")] = some false) (is_PolicyError_TooManyKeys : PySem.W.kitAny K (.ref (He.ga K "PolicyError")) [.ref (He.ga K "TooManyKeys")] = some false) (is_PolicyError_TooManySpans : PySem.W.kitAny K (.ref (He.ga K "PolicyError")) [.ref (He.ga K "TooManySpans")] = some false) (is_TooLong_CommandError : PySem.W.kitAny K (.ref (He.ga K "TooLong")) [.ref (He.ga K "CommandError")] = some false) (is_TooLong_DifferentForms : PySem.W.kitAny K (.ref (He.ga K "TooLong")) [.ref (He.ga K "DifferentForms")] = some false) (is_TooLong_Impossible : PySem.W.kitAny K (.ref (He.ga K "TooLong")) [.ref (He.ga K "Impossible")] = some false) (is_TooLong_InvalidBehaviour : PySem.W.kitAny K (.ref (He.ga K "TooLong")) [.ref (He.ga K "InvalidBehaviour")] = some false) (is_TooLong_InvalidPolicy : PySem.W.kitAny K (.ref (He.ga K "TooLong")) [.ref (He.ga K "InvalidPolicy")] = some false) (is_TooLong_NoPart : PySem.W.kitAny K (.ref (He.ga K "TooLong")) [.ref (He.ga K "NoPart")] = some false) (is_TooLong_NothingToUndo : PySem.W.kitAny K (.ref (He.ga K "TooLong")) [.ref (He.ga K "NothingToUndo")] = some false) (is_TooLong_ParseError : PySem.W.kitAny K (.ref (He.ga K "TooLong")) [.ref (He.ga K "ParseError")] = some false) (is_TooLong_TooLong : PySem.W.kitAny K (.ref (He.ga K "TooLong")) [.ref (He.ga K "TooLong")] = some true) (is_TooLong_TooManyEndings : PySem.W.kitAny K (.ref (He.ga K "TooLong")) [.ref (He.ga K "TooManyEndings")] = some false) (is_TooLong_TooManyKeys : PySem.W.kitAny K (.ref (He.ga K "TooLong")) [.ref (He.ga K "TooManyKeys")] = some false) (is_TooLong_TooManySpans : PySem.W.kitAny K (.ref (He.ga K "TooLong")) [.ref (He.ga K "TooManySpans")] = some false) (is_TooManyEndings_CommandError : PySem.W.kitAny K (.ref (He.ga K "TooManyEndings")) [.ref (He.ga K "CommandError")] = some false) (is_TooManyEndings_DifferentForms : PySem.W.kitAny K (.ref (He.ga K "TooManyEndings")) [.ref (He.ga K "DifferentForms")] = some false) (is_TooManyEndings_Impossible : PySem.W.kitAny K (.ref (He.ga K "TooManyEndings")) [.ref (He.ga K "Impossible")] = some false) (is_TooManyEndings_InvalidBehaviour : PySem.W.kitAny K (.ref (He.ga K "TooManyEndings")) [.ref (He.ga K "InvalidBehaviour")] = some false) (is_TooManyEndings_InvalidPolicy : PySem.W.kitAny K (.ref (He.ga K "TooManyEndings")) [.ref (He.ga K "InvalidPolicy")] = some false) (is_TooManyEndings_NoPart : PySem.W.kitAny K (.ref (He.ga K "TooManyEndings")) [.ref (He.ga K "NoPart")] = some false) (is_TooManyEndings_NothingToUndo : PySem.W.kitAny K (.ref (He.ga K "TooManyEndings")) [.ref (He.ga K "NothingToUndo")] = some false) (is_TooManyEndings_ParseError : PySem.W.kitAny K (.ref (He.ga K "TooManyEndings")) [.ref (He.ga K "ParseError")] = some false) (is_TooManyEndings_TooLong : PySem.W.kitAny K (.ref (He.ga K "TooManyEndings")) [.ref (He.ga K "TooLong")] = some false) (is_TooManyEndings_TooManyEndings : PySem.W.kitAny K (.ref (He.ga K "TooManyEndings")) [.ref (He.ga K "TooManyEndings")] = some true) (is_TooManyEndings_TooManyKeys : PySem.W.kitAny K (.ref (He.ga K "TooManyEndings")) [.ref (He.ga K "TooManyKeys")] = some false) (is_TooManyEndings_TooManySpans : PySem.W.kitAny K (.ref (He.ga K "TooManyEndings")) [.ref (He.ga K "TooManySpans")] = some false) (is_TooManyKeys_CommandError : PySem.W.kitAny K (.ref (He.ga K "TooManyKeys")) [.ref (He.ga K "CommandError")] = some false) (is_TooManyKeys_DifferentForms : PySem.W.kitAny K (.ref (He.ga K "TooManyKeys")) [.ref (He.ga K "DifferentForms")] = some false) (is_TooManyKeys_Impossible : PySem.W.kitAny K (.ref (He.ga K "TooManyKeys")) [.ref (He.ga K "Impossible")] = some false) (is_TooManyKeys_InvalidBehaviour : PySem.W.kitAny K (.ref (He.ga K "TooManyKeys")) [.ref (He.ga K "InvalidBehaviour")] = some false) (is_TooManyKeys_InvalidPolicy : PySem.W.kitAny K (.ref (He.ga K "TooManyKeys")) [.ref (He.ga K "InvalidPolicy")] = some false) (is_TooManyKeys_NoPart : PySem.W.kitAny K (.ref (He.ga K "TooManyKeys")) [.ref (He.ga K "NoPart")] = some false) (is_TooManyKeys_NothingToUndo : PySem.W.kitAny K (.ref (He.ga K "TooManyKeys")) [.ref (He.ga K "NothingToUndo")] = some false) (is_TooManyKeys_ParseError : PySem.W.kitAny K (.ref (He.ga K "TooManyKeys")) [.ref (He.ga K "ParseError")] = some false) (is_TooManyKeys_TooLong : PySem.W.kitAny K (.ref (He.ga K "TooManyKeys")) [.ref (He.ga K "TooLong")] = some false) (is_TooManyKeys_TooManyEndings : PySem.W.kitAny K (.ref (He.ga K "TooManyKeys")) [.ref (He.ga K "TooManyEndings")] = some false) (is_TooManyKeys_TooManyKeys : PySem.W.kitAny K (.ref (He.ga K "TooManyKeys")) [.ref (He.ga K "TooManyKeys")] = some true) (is_TooManyKeys_TooManySpans : PySem.W.kitAny K (.ref (He.ga K "TooManyKeys")) [.ref (He.ga K "TooManySpans")] = some false) (is_TooManySpans_CommandError : PySem.W.kitAny K (.ref (He.ga K "TooManySpans")) [.ref (He.ga K "CommandError")] = some false) (is_TooManySpans_DifferentForms : PySem.W.kitAny K (.ref (He.ga K "TooManySpans")) [.ref (He.ga K "DifferentForms")] = some false) (is_TooManySpans_Impossible : PySem.W.kitAny K (.ref (He.ga K "TooManySpans")) [.ref (He.ga K "Impossible")] = some false) (is_TooManySpans_InvalidBehaviour : PySem.W.kitAny K (.ref (He.ga K "TooManySpans")) [.ref (He.ga K "InvalidBehaviour")] = some false) (is_TooManySpans_InvalidPolicy : PySem.W.kitAny K (.ref (He.ga K "TooManySpans")) [.ref (He.ga K "InvalidPolicy")] = some false) (is_TooManySpans_NoPart : PySem.W.kitAny K (.ref (He.ga K "TooManySpans")) [.ref (He.ga K "NoPart")] = some false) (is_TooManySpans_NothingToUndo : PySem.W.kitAny K (.ref (He.ga K "TooManySpans")) [.ref (He.ga K "NothingToUndo")] = some false) (is_TooManySpans_ParseError : PySem.W.kitAny K (.ref (He.ga K "TooManySpans")) [.ref (He.ga K "ParseError")] = some false) (is_TooManySpans_TooLong : PySem.W.kitAny K (.ref (He.ga K "TooManySpans")) [.ref (He.ga K "TooLong")] = some false) (is_TooManySpans_TooManyEndings : PySem.W.kitAny K (.ref (He.ga K "TooManySpans")) [.ref (He.ga K "TooManyEndings")] = some false) (is_TooManySpans_TooManyKeys : PySem.W.kitAny K (.ref (He.ga K "TooManySpans")) [.ref (He.ga K "TooManyKeys")] = some false) (is_TooManySpans_TooManySpans : PySem.W.kitAny K (.ref (He.ga K "TooManySpans")) [.ref (He.ga K "TooManySpans")] = some true) : Kn P w K mg base "_law_kinds" 1 sem__law_kinds :=
  kn_def (k := 0) (N := ["_law_error", "_law_some"]) (ps := ["_law_error"]) (sb := sb__law_kinds) D ⟨rfl, rfl, rfl, by decide +kernel, rfl, by decide +kernel, by decide +kernel⟩ (fun _ _ _ _ _ _ us hl => match us, hl with | [_], _ => rfl) (fun cdv f A outer s H E B =>
    (x_cons (x_asg (pv_frz (s_lst (a_cons (s_isD (cat := [("PolicyError", false), ("InvalidPolicy", true), ("NoPart", false), ("InvalidBehaviour", false), ("Impossible", false), ("DifferentForms", false), ("TooManyKeys", false), ("TooManySpans", false), ("TooManyEndings", false), ("TooLong", false), ("NothingToUndo", false), ("ParseError", false), ("CommandError", false)]) B.hK (by rfl) m_isinstance (s_name (pv 0)) (by rfl) g_InvalidPolicy (cat_cons ⟨err_PolicyError, is_PolicyError_InvalidPolicy⟩ (cat_cons ⟨err_InvalidPolicy, is_InvalidPolicy_InvalidPolicy⟩ (cat_cons ⟨err_NoPart, is_NoPart_InvalidPolicy⟩ (cat_cons ⟨err_InvalidBehaviour, is_InvalidBehaviour_InvalidPolicy⟩ (cat_cons ⟨err_Impossible, is_Impossible_InvalidPolicy⟩ (cat_cons ⟨err_DifferentForms, is_DifferentForms_InvalidPolicy⟩ (cat_cons ⟨err_TooManyKeys, is_TooManyKeys_InvalidPolicy⟩ (cat_cons ⟨err_TooManySpans, is_TooManySpans_InvalidPolicy⟩ (cat_cons ⟨err_TooManyEndings, is_TooManyEndings_InvalidPolicy⟩ (cat_cons ⟨err_TooLong, is_TooLong_InvalidPolicy⟩ (cat_cons ⟨err_NothingToUndo, is_NothingToUndo_InvalidPolicy⟩ (cat_cons ⟨err_ParseError, is_ParseError_InvalidPolicy⟩ (cat_cons ⟨err_CommandError, is_CommandError_InvalidPolicy⟩ cat_nil)))))))))))))) (a_cons (s_isD (cat := [("PolicyError", false), ("InvalidPolicy", false), ("NoPart", true), ("InvalidBehaviour", false), ("Impossible", false), ("DifferentForms", false), ("TooManyKeys", false), ("TooManySpans", false), ("TooManyEndings", false), ("TooLong", false), ("NothingToUndo", false), ("ParseError", false), ("CommandError", false)]) B.hK (by rfl) m_isinstance (s_name (pv 0)) (by rfl) g_NoPart (cat_cons ⟨err_PolicyError, is_PolicyError_NoPart⟩ (cat_cons ⟨err_InvalidPolicy, is_InvalidPolicy_NoPart⟩ (cat_cons ⟨err_NoPart, is_NoPart_NoPart⟩ (cat_cons ⟨err_InvalidBehaviour, is_InvalidBehaviour_NoPart⟩ (cat_cons ⟨err_Impossible, is_Impossible_NoPart⟩ (cat_cons ⟨err_DifferentForms, is_DifferentForms_NoPart⟩ (cat_cons ⟨err_TooManyKeys, is_TooManyKeys_NoPart⟩ (cat_cons ⟨err_TooManySpans, is_TooManySpans_NoPart⟩ (cat_cons ⟨err_TooManyEndings, is_TooManyEndings_NoPart⟩ (cat_cons ⟨err_TooLong, is_TooLong_NoPart⟩ (cat_cons ⟨err_NothingToUndo, is_NothingToUndo_NoPart⟩ (cat_cons ⟨err_ParseError, is_ParseError_NoPart⟩ (cat_cons ⟨err_CommandError, is_CommandError_NoPart⟩ cat_nil)))))))))))))) (a_cons (s_isD (cat := [("PolicyError", false), ("InvalidPolicy", false), ("NoPart", false), ("InvalidBehaviour", true), ("Impossible", false), ("DifferentForms", false), ("TooManyKeys", false), ("TooManySpans", false), ("TooManyEndings", false), ("TooLong", false), ("NothingToUndo", false), ("ParseError", false), ("CommandError", false)]) B.hK (by rfl) m_isinstance (s_name (pv 0)) (by rfl) g_InvalidBehaviour (cat_cons ⟨err_PolicyError, is_PolicyError_InvalidBehaviour⟩ (cat_cons ⟨err_InvalidPolicy, is_InvalidPolicy_InvalidBehaviour⟩ (cat_cons ⟨err_NoPart, is_NoPart_InvalidBehaviour⟩ (cat_cons ⟨err_InvalidBehaviour, is_InvalidBehaviour_InvalidBehaviour⟩ (cat_cons ⟨err_Impossible, is_Impossible_InvalidBehaviour⟩ (cat_cons ⟨err_DifferentForms, is_DifferentForms_InvalidBehaviour⟩ (cat_cons ⟨err_TooManyKeys, is_TooManyKeys_InvalidBehaviour⟩ (cat_cons ⟨err_TooManySpans, is_TooManySpans_InvalidBehaviour⟩ (cat_cons ⟨err_TooManyEndings, is_TooManyEndings_InvalidBehaviour⟩ (cat_cons ⟨err_TooLong, is_TooLong_InvalidBehaviour⟩ (cat_cons ⟨err_NothingToUndo, is_NothingToUndo_InvalidBehaviour⟩ (cat_cons ⟨err_ParseError, is_ParseError_InvalidBehaviour⟩ (cat_cons ⟨err_CommandError, is_CommandError_InvalidBehaviour⟩ cat_nil)))))))))))))) a_nil))))) (t_name (pg_name (i := 1) B.nd rfl (by first | exact .inl rfl | exact .inr rfl)))) (x_cons (x_asg (pv_frz (s_add (s_name (pv 1)) (s_lst (a_cons (s_isD (cat := [("PolicyError", false), ("InvalidPolicy", false), ("NoPart", false), ("InvalidBehaviour", false), ("Impossible", true), ("DifferentForms", false), ("TooManyKeys", false), ("TooManySpans", false), ("TooManyEndings", false), ("TooLong", false), ("NothingToUndo", false), ("ParseError", false), ("CommandError", false)]) B.hK (by rfl) m_isinstance (s_name (pv 0)) (by rfl) g_Impossible (cat_cons ⟨err_PolicyError, is_PolicyError_Impossible⟩ (cat_cons ⟨err_InvalidPolicy, is_InvalidPolicy_Impossible⟩ (cat_cons ⟨err_NoPart, is_NoPart_Impossible⟩ (cat_cons ⟨err_InvalidBehaviour, is_InvalidBehaviour_Impossible⟩ (cat_cons ⟨err_Impossible, is_Impossible_Impossible⟩ (cat_cons ⟨err_DifferentForms, is_DifferentForms_Impossible⟩ (cat_cons ⟨err_TooManyKeys, is_TooManyKeys_Impossible⟩ (cat_cons ⟨err_TooManySpans, is_TooManySpans_Impossible⟩ (cat_cons ⟨err_TooManyEndings, is_TooManyEndings_Impossible⟩ (cat_cons ⟨err_TooLong, is_TooLong_Impossible⟩ (cat_cons ⟨err_NothingToUndo, is_NothingToUndo_Impossible⟩ (cat_cons ⟨err_ParseError, is_ParseError_Impossible⟩ (cat_cons ⟨err_CommandError, is_CommandError_Impossible⟩ cat_nil)))))))))))))) (a_cons (s_isD (cat := [("PolicyError", false), ("InvalidPolicy", false), ("NoPart", false), ("InvalidBehaviour", false), ("Impossible", false), ("DifferentForms", false), ("TooManyKeys", false), ("TooManySpans", false), ("TooManyEndings", false), ("TooLong", true), ("NothingToUndo", false), ("ParseError", false), ("CommandError", false)]) B.hK (by rfl) m_isinstance (s_name (pv 0)) (by rfl) g_TooLong (cat_cons ⟨err_PolicyError, is_PolicyError_TooLong⟩ (cat_cons ⟨err_InvalidPolicy, is_InvalidPolicy_TooLong⟩ (cat_cons ⟨err_NoPart, is_NoPart_TooLong⟩ (cat_cons ⟨err_InvalidBehaviour, is_InvalidBehaviour_TooLong⟩ (cat_cons ⟨err_Impossible, is_Impossible_TooLong⟩ (cat_cons ⟨err_DifferentForms, is_DifferentForms_TooLong⟩ (cat_cons ⟨err_TooManyKeys, is_TooManyKeys_TooLong⟩ (cat_cons ⟨err_TooManySpans, is_TooManySpans_TooLong⟩ (cat_cons ⟨err_TooManyEndings, is_TooManyEndings_TooLong⟩ (cat_cons ⟨err_TooLong, is_TooLong_TooLong⟩ (cat_cons ⟨err_NothingToUndo, is_NothingToUndo_TooLong⟩ (cat_cons ⟨err_ParseError, is_ParseError_TooLong⟩ (cat_cons ⟨err_CommandError, is_CommandError_TooLong⟩ cat_nil)))))))))))))) (a_cons (s_isD (cat := [("PolicyError", false), ("InvalidPolicy", false), ("NoPart", false), ("InvalidBehaviour", false), ("Impossible", false), ("DifferentForms", false), ("TooManyKeys", false), ("TooManySpans", false), ("TooManyEndings", false), ("TooLong", false), ("NothingToUndo", false), ("ParseError", true), ("CommandError", false)]) B.hK (by rfl) m_isinstance (s_name (pv 0)) (by rfl) g_ParseError (cat_cons ⟨err_PolicyError, is_PolicyError_ParseError⟩ (cat_cons ⟨err_InvalidPolicy, is_InvalidPolicy_ParseError⟩ (cat_cons ⟨err_NoPart, is_NoPart_ParseError⟩ (cat_cons ⟨err_InvalidBehaviour, is_InvalidBehaviour_ParseError⟩ (cat_cons ⟨err_Impossible, is_Impossible_ParseError⟩ (cat_cons ⟨err_DifferentForms, is_DifferentForms_ParseError⟩ (cat_cons ⟨err_TooManyKeys, is_TooManyKeys_ParseError⟩ (cat_cons ⟨err_TooManySpans, is_TooManySpans_ParseError⟩ (cat_cons ⟨err_TooManyEndings, is_TooManyEndings_ParseError⟩ (cat_cons ⟨err_TooLong, is_TooLong_ParseError⟩ (cat_cons ⟨err_NothingToUndo, is_NothingToUndo_ParseError⟩ (cat_cons ⟨err_ParseError, is_ParseError_ParseError⟩ (cat_cons ⟨err_CommandError, is_CommandError_ParseError⟩ cat_nil)))))))))))))) a_nil)))))) (t_name (pg_name (i := 1) B.nd rfl (by first | exact .inl rfl | exact .inr rfl)))) (x_cons (x_asg (pv_frz (s_add (s_name (pv 1)) (s_lst (a_cons (s_isD (cat := [("PolicyError", false), ("InvalidPolicy", false), ("NoPart", false), ("InvalidBehaviour", false), ("Impossible", false), ("DifferentForms", false), ("TooManyKeys", false), ("TooManySpans", false), ("TooManyEndings", false), ("TooLong", false), ("NothingToUndo", false), ("ParseError", false), ("CommandError", true)]) B.hK (by rfl) m_isinstance (s_name (pv 0)) (by rfl) g_CommandError (cat_cons ⟨err_PolicyError, is_PolicyError_CommandError⟩ (cat_cons ⟨err_InvalidPolicy, is_InvalidPolicy_CommandError⟩ (cat_cons ⟨err_NoPart, is_NoPart_CommandError⟩ (cat_cons ⟨err_InvalidBehaviour, is_InvalidBehaviour_CommandError⟩ (cat_cons ⟨err_Impossible, is_Impossible_CommandError⟩ (cat_cons ⟨err_DifferentForms, is_DifferentForms_CommandError⟩ (cat_cons ⟨err_TooManyKeys, is_TooManyKeys_CommandError⟩ (cat_cons ⟨err_TooManySpans, is_TooManySpans_CommandError⟩ (cat_cons ⟨err_TooManyEndings, is_TooManyEndings_CommandError⟩ (cat_cons ⟨err_TooLong, is_TooLong_CommandError⟩ (cat_cons ⟨err_NothingToUndo, is_NothingToUndo_CommandError⟩ (cat_cons ⟨err_ParseError, is_ParseError_CommandError⟩ (cat_cons ⟨err_CommandError, is_CommandError_CommandError⟩ cat_nil)))))))))))))) (a_cons (s_isD (cat := [("PolicyError", false), ("InvalidPolicy", false), ("NoPart", false), ("InvalidBehaviour", false), ("Impossible", false), ("DifferentForms", true), ("TooManyKeys", false), ("TooManySpans", false), ("TooManyEndings", false), ("TooLong", false), ("NothingToUndo", false), ("ParseError", false), ("CommandError", false)]) B.hK (by rfl) m_isinstance (s_name (pv 0)) (by rfl) g_DifferentForms (cat_cons ⟨err_PolicyError, is_PolicyError_DifferentForms⟩ (cat_cons ⟨err_InvalidPolicy, is_InvalidPolicy_DifferentForms⟩ (cat_cons ⟨err_NoPart, is_NoPart_DifferentForms⟩ (cat_cons ⟨err_InvalidBehaviour, is_InvalidBehaviour_DifferentForms⟩ (cat_cons ⟨err_Impossible, is_Impossible_DifferentForms⟩ (cat_cons ⟨err_DifferentForms, is_DifferentForms_DifferentForms⟩ (cat_cons ⟨err_TooManyKeys, is_TooManyKeys_DifferentForms⟩ (cat_cons ⟨err_TooManySpans, is_TooManySpans_DifferentForms⟩ (cat_cons ⟨err_TooManyEndings, is_TooManyEndings_DifferentForms⟩ (cat_cons ⟨err_TooLong, is_TooLong_DifferentForms⟩ (cat_cons ⟨err_NothingToUndo, is_NothingToUndo_DifferentForms⟩ (cat_cons ⟨err_ParseError, is_ParseError_DifferentForms⟩ (cat_cons ⟨err_CommandError, is_CommandError_DifferentForms⟩ cat_nil)))))))))))))) a_nil))))) (t_name (pg_name (i := 1) B.nd rfl (by first | exact .inl rfl | exact .inr rfl)))) (x_cons (x_asg (pv_frz (s_add (s_name (pv 1)) (s_lst (a_cons (s_isD (cat := [("PolicyError", false), ("InvalidPolicy", false), ("NoPart", false), ("InvalidBehaviour", false), ("Impossible", false), ("DifferentForms", false), ("TooManyKeys", true), ("TooManySpans", false), ("TooManyEndings", false), ("TooLong", false), ("NothingToUndo", false), ("ParseError", false), ("CommandError", false)]) B.hK (by rfl) m_isinstance (s_name (pv 0)) (by rfl) g_TooManyKeys (cat_cons ⟨err_PolicyError, is_PolicyError_TooManyKeys⟩ (cat_cons ⟨err_InvalidPolicy, is_InvalidPolicy_TooManyKeys⟩ (cat_cons ⟨err_NoPart, is_NoPart_TooManyKeys⟩ (cat_cons ⟨err_InvalidBehaviour, is_InvalidBehaviour_TooManyKeys⟩ (cat_cons ⟨err_Impossible, is_Impossible_TooManyKeys⟩ (cat_cons ⟨err_DifferentForms, is_DifferentForms_TooManyKeys⟩ (cat_cons ⟨err_TooManyKeys, is_TooManyKeys_TooManyKeys⟩ (cat_cons ⟨err_TooManySpans, is_TooManySpans_TooManyKeys⟩ (cat_cons ⟨err_TooManyEndings, is_TooManyEndings_TooManyKeys⟩ (cat_cons ⟨err_TooLong, is_TooLong_TooManyKeys⟩ (cat_cons ⟨err_NothingToUndo, is_NothingToUndo_TooManyKeys⟩ (cat_cons ⟨err_ParseError, is_ParseError_TooManyKeys⟩ (cat_cons ⟨err_CommandError, is_CommandError_TooManyKeys⟩ cat_nil)))))))))))))) (a_cons (s_isD (cat := [("PolicyError", false), ("InvalidPolicy", false), ("NoPart", false), ("InvalidBehaviour", false), ("Impossible", false), ("DifferentForms", false), ("TooManyKeys", false), ("TooManySpans", true), ("TooManyEndings", false), ("TooLong", false), ("NothingToUndo", false), ("ParseError", false), ("CommandError", false)]) B.hK (by rfl) m_isinstance (s_name (pv 0)) (by rfl) g_TooManySpans (cat_cons ⟨err_PolicyError, is_PolicyError_TooManySpans⟩ (cat_cons ⟨err_InvalidPolicy, is_InvalidPolicy_TooManySpans⟩ (cat_cons ⟨err_NoPart, is_NoPart_TooManySpans⟩ (cat_cons ⟨err_InvalidBehaviour, is_InvalidBehaviour_TooManySpans⟩ (cat_cons ⟨err_Impossible, is_Impossible_TooManySpans⟩ (cat_cons ⟨err_DifferentForms, is_DifferentForms_TooManySpans⟩ (cat_cons ⟨err_TooManyKeys, is_TooManyKeys_TooManySpans⟩ (cat_cons ⟨err_TooManySpans, is_TooManySpans_TooManySpans⟩ (cat_cons ⟨err_TooManyEndings, is_TooManyEndings_TooManySpans⟩ (cat_cons ⟨err_TooLong, is_TooLong_TooManySpans⟩ (cat_cons ⟨err_NothingToUndo, is_NothingToUndo_TooManySpans⟩ (cat_cons ⟨err_ParseError, is_ParseError_TooManySpans⟩ (cat_cons ⟨err_CommandError, is_CommandError_TooManySpans⟩ cat_nil)))))))))))))) a_nil))))) (t_name (pg_name (i := 1) B.nd rfl (by first | exact .inl rfl | exact .inr rfl)))) (x_one (x_ret (s_add (s_name (pv 1)) (s_lst (a_cons (s_isD (cat := [("PolicyError", false), ("InvalidPolicy", false), ("NoPart", false), ("InvalidBehaviour", false), ("Impossible", false), ("DifferentForms", false), ("TooManyKeys", false), ("TooManySpans", false), ("TooManyEndings", true), ("TooLong", false), ("NothingToUndo", false), ("ParseError", false), ("CommandError", false)]) B.hK (by rfl) m_isinstance (s_name (pv 0)) (by rfl) g_TooManyEndings (cat_cons ⟨err_PolicyError, is_PolicyError_TooManyEndings⟩ (cat_cons ⟨err_InvalidPolicy, is_InvalidPolicy_TooManyEndings⟩ (cat_cons ⟨err_NoPart, is_NoPart_TooManyEndings⟩ (cat_cons ⟨err_InvalidBehaviour, is_InvalidBehaviour_TooManyEndings⟩ (cat_cons ⟨err_Impossible, is_Impossible_TooManyEndings⟩ (cat_cons ⟨err_DifferentForms, is_DifferentForms_TooManyEndings⟩ (cat_cons ⟨err_TooManyKeys, is_TooManyKeys_TooManyEndings⟩ (cat_cons ⟨err_TooManySpans, is_TooManySpans_TooManyEndings⟩ (cat_cons ⟨err_TooManyEndings, is_TooManyEndings_TooManyEndings⟩ (cat_cons ⟨err_TooLong, is_TooLong_TooManyEndings⟩ (cat_cons ⟨err_NothingToUndo, is_NothingToUndo_TooManyEndings⟩ (cat_cons ⟨err_ParseError, is_ParseError_TooManyEndings⟩ (cat_cons ⟨err_CommandError, is_CommandError_TooManyEndings⟩ cat_nil)))))))))))))) (a_cons (s_isD (cat := [("PolicyError", false), ("InvalidPolicy", false), ("NoPart", false), ("InvalidBehaviour", false), ("Impossible", false), ("DifferentForms", false), ("TooManyKeys", false), ("TooManySpans", false), ("TooManyEndings", false), ("TooLong", false), ("NothingToUndo", true), ("ParseError", false), ("CommandError", false)]) B.hK (by rfl) m_isinstance (s_name (pv 0)) (by rfl) g_NothingToUndo (cat_cons ⟨err_PolicyError, is_PolicyError_NothingToUndo⟩ (cat_cons ⟨err_InvalidPolicy, is_InvalidPolicy_NothingToUndo⟩ (cat_cons ⟨err_NoPart, is_NoPart_NothingToUndo⟩ (cat_cons ⟨err_InvalidBehaviour, is_InvalidBehaviour_NothingToUndo⟩ (cat_cons ⟨err_Impossible, is_Impossible_NothingToUndo⟩ (cat_cons ⟨err_DifferentForms, is_DifferentForms_NothingToUndo⟩ (cat_cons ⟨err_TooManyKeys, is_TooManyKeys_NothingToUndo⟩ (cat_cons ⟨err_TooManySpans, is_TooManySpans_NothingToUndo⟩ (cat_cons ⟨err_TooManyEndings, is_TooManyEndings_NothingToUndo⟩ (cat_cons ⟨err_TooLong, is_TooLong_NothingToUndo⟩ (cat_cons ⟨err_NothingToUndo, is_NothingToUndo_NothingToUndo⟩ (cat_cons ⟨err_ParseError, is_ParseError_NothingToUndo⟩ (cat_cons ⟨err_CommandError, is_CommandError_NothingToUndo⟩ cat_nil)))))))))))))) a_nil)))))))))))
noncomputable def sb__law_made : Sv := (sSeq (sAsg (gNm 1) (mVc (mLst aNil))) (sSeq (sFor (iOf (mTup (aCons (mV (mErV1 "InvalidPolicy" "value" (aCons (mV (mN 0)) aNil))) (aCons (mV (mErV1 "NoPart" "value" (aCons (mV (mN 0)) aNil))) (aCons (mV (mErV1 "InvalidBehaviour" "value" (aCons (mV (mN 0)) aNil))) (aCons (mV (mErV1 "Impossible" "value" (aCons (mV (mN 0)) aNil))) (aCons (mV (mErV1 "TooLong" "value" (aCons (mV (mN 0)) aNil))) aNil))))))) (gNm 2) (sExp (mApp (mN 1) (mTup (aCons (mV (mN 2)) (aCons (mV (mErFD ["InvalidPolicy", "NoPart", "InvalidBehaviour", "Impossible", "TooLong"] "value" (mN 2))) aNil)))))) (sSeq (sPar [3, 4] (aCons (mV (mErV1 "ParseError" "index" (aCons (mV (mN 0)) aNil))) (aCons (mV (mErV1 "CommandError" "command" (aCons (mV (mN 0)) aNil))) aNil))) (sSeq (sExp (mExt (mN 1) (mLst (aCons (mV (mTup (aCons (mV (mN 3)) (aCons (mV (mErFD ["ParseError"] "index" (mN 3))) aNil)))) (aCons (mV (mTup (aCons (mV (mN 4)) (aCons (mV (mErFD ["CommandError"] "command" (mN 4))) aNil)))) aNil))))) (sSeq (sFor (iOf (mTup (aCons (mV (mErV0 "DifferentForms")) (aCons (mV (mErV0 "TooManyKeys")) (aCons (mV (mErV0 "TooManySpans")) (aCons (mV (mErV0 "TooManyEndings")) (aCons (mV (mErV0 "NothingToUndo")) aNil))))))) (gNm 2) (sExp (mApp (mN 1) (mTup (aCons (mV (mN 2)) (aCons (mV (mN 0)) aNil)))))) (sRet (mN 1)))))))
noncomputable def sem__law_made : Fs := bodyF 5 1 sb__law_made
theorem kn__law_made (D : Df K mg "_law_made" st__law_made) (err_CommandError : ErrC K (He.ga K "CommandError")) (err_Impossible : ErrC K (He.ga K "Impossible")) (err_InvalidBehaviour : ErrC K (He.ga K "InvalidBehaviour")) (err_InvalidPolicy : ErrC K (He.ga K "InvalidPolicy")) (err_NoPart : ErrC K (He.ga K "NoPart")) (err_ParseError : ErrC K (He.ga K "ParseError")) (err_TooLong : ErrC K (He.ga K "TooLong")) (exc_DifferentForms : PySem.W.excIn K (He.ga K "DifferentForms") He.veBase "ValueError.__new__" = true ∧ PySem.W.keepIn K (.ref (He.ga K "DifferentForms")) = true ∧ PySem.W.subIn K (.ref (He.ga K "DifferentForms")) (.type "BaseException") = some true ∧ PySem.W.typeIn K (.ref (He.ga K "DifferentForms")) = some (.type "type")) (exc_NothingToUndo : PySem.W.excIn K (He.ga K "NothingToUndo") He.veBase "ValueError.__new__" = true ∧ PySem.W.keepIn K (.ref (He.ga K "NothingToUndo")) = true ∧ PySem.W.subIn K (.ref (He.ga K "NothingToUndo")) (.type "BaseException") = some true ∧ PySem.W.typeIn K (.ref (He.ga K "NothingToUndo")) = some (.type "type")) (exc_TooManyEndings : PySem.W.excIn K (He.ga K "TooManyEndings") He.veBase "ValueError.__new__" = true ∧ PySem.W.keepIn K (.ref (He.ga K "TooManyEndings")) = true ∧ PySem.W.subIn K (.ref (He.ga K "TooManyEndings")) (.type "BaseException") = some true ∧ PySem.W.typeIn K (.ref (He.ga K "TooManyEndings")) = some (.type "type")) (exc_TooManyKeys : PySem.W.excIn K (He.ga K "TooManyKeys") He.veBase "ValueError.__new__" = true ∧ PySem.W.keepIn K (.ref (He.ga K "TooManyKeys")) = true ∧ PySem.W.subIn K (.ref (He.ga K "TooManyKeys")) (.type "BaseException") = some true ∧ PySem.W.typeIn K (.ref (He.ga K "TooManyKeys")) = some (.type "type")) (exc_TooManySpans : PySem.W.excIn K (He.ga K "TooManySpans") He.veBase "ValueError.__new__" = true ∧ PySem.W.keepIn K (.ref (He.ga K "TooManySpans")) = true ∧ PySem.W.subIn K (.ref (He.ga K "TooManySpans")) (.type "BaseException") = some true ∧ PySem.W.typeIn K (.ref (He.ga K "TooManySpans")) = some (.type "type")) (g_CommandError : mg "CommandError" = some (.ref (He.ga K "CommandError"))) (g_DifferentForms : mg "DifferentForms" = some (.ref (He.ga K "DifferentForms"))) (g_Impossible : mg "Impossible" = some (.ref (He.ga K "Impossible"))) (g_InvalidBehaviour : mg "InvalidBehaviour" = some (.ref (He.ga K "InvalidBehaviour"))) (g_InvalidPolicy : mg "InvalidPolicy" = some (.ref (He.ga K "InvalidPolicy"))) (g_NoPart : mg "NoPart" = some (.ref (He.ga K "NoPart"))) (g_NothingToUndo : mg "NothingToUndo" = some (.ref (He.ga K "NothingToUndo"))) (g_ParseError : mg "ParseError" = some (.ref (He.ga K "ParseError"))) (g_TooLong : mg "TooLong" = some (.ref (He.ga K "TooLong"))) (g_TooManyEndings : mg "TooManyEndings" = some (.ref (He.ga K "TooManyEndings"))) (g_TooManyKeys : mg "TooManyKeys" = some (.ref (He.ga K "TooManyKeys"))) (g_TooManySpans : mg "TooManySpans" = some (.ref (He.ga K "TooManySpans"))) (noat_CommandError_command : PySem.W.findIn K (.ref (He.ga K "CommandError")) "command" = some none) (noat_Impossible_value : PySem.W.findIn K (.ref (He.ga K "Impossible")) "value" = some none) (noat_InvalidBehaviour_value : PySem.W.findIn K (.ref (He.ga K "InvalidBehaviour")) "value" = some none) (noat_InvalidPolicy_value : PySem.W.findIn K (.ref (He.ga K "InvalidPolicy")) "value" = some none) (noat_NoPart_value : PySem.W.findIn K (.ref (He.ga K "NoPart")) "value" = some none) (noat_ParseError_index : PySem.W.findIn K (.ref (He.ga K "ParseError")) "index" = some none) (noat_TooLong_value : PySem.W.findIn K (.ref (He.ga K "TooLong")) "value" = some none) (txt_CommandError : Cfcommand.Txt K (He.ga K "CommandError") (He.ma K (He.ga K "CommandError") "__init__") "CommandError.__init__") (txt_Impossible : Cfvalue.Txt K (He.ga K "Impossible") (He.ma K (He.ga K "Impossible") "__init__") "Impossible.__init__") (txt_InvalidBehaviour : Cfvalue.Txt K (He.ga K "InvalidBehaviour") (He.ma K (He.ga K "InvalidBehaviour") "__init__") "InvalidBehaviour.__init__") (txt_InvalidPolicy : Cfvalue.Txt K (He.ga K "InvalidPolicy") (He.ma K (He.ga K "InvalidPolicy") "__init__") "InvalidPolicy.__init__") (txt_NoPart : Cfvalue.Txt K (He.ga K "NoPart") (He.ma K (He.ga K "NoPart") "__init__") "NoPart.__init__") (txt_ParseError : Cfindex.Txt K (He.ga K "ParseError") (He.ma K (He.ga K "ParseError") "__init__") "ParseError.__init__") (txt_TooLong : Cfvalue.Txt K (He.ga K "TooLong") (He.ma K (He.ga K "TooLong") "__init__") "TooLong.__init__") : Kn P w K mg base "_law_made" 1 sem__law_made :=
  kn_def (k := 0) (N := ["_law_item", "_law_found", "_law_error", "_law_first", "_law_last"]) (ps := ["_law_item"]) (sb := sb__law_made) D ⟨rfl, rfl, rfl, by decide +kernel, rfl, by decide +kernel, by decide +kernel⟩ (fun _ _ _ _ _ _ us hl => match us, hl with | [_], _ => rfl) (fun cdv f A outer s H E B =>
    (x_cons (x_asg (pv_cell (s_lst a_nil)) (t_name (pg_name (i := 1) B.nd rfl (by first | exact .inl rfl | exact .inr rfl)))) (x_cons (x_for B.hp B.cm (i_seq (s_tup (a_cons (s_erV_value B txt_InvalidPolicy g_InvalidPolicy (by rfl) (a_cons (s_name (pv 0)) a_nil)) (a_cons (s_erV_value B txt_NoPart g_NoPart (by rfl) (a_cons (s_name (pv 0)) a_nil)) (a_cons (s_erV_value B txt_InvalidBehaviour g_InvalidBehaviour (by rfl) (a_cons (s_name (pv 0)) a_nil)) (a_cons (s_erV_value B txt_Impossible g_Impossible (by rfl) (a_cons (s_name (pv 0)) a_nil)) (a_cons (s_erV_value B txt_TooLong g_TooLong (by rfl) (a_cons (s_name (pv 0)) a_nil)) a_nil))))))) (t_name (pg_name (i := 2) B.nd rfl (by first | exact .inl rfl | exact .inr rfl))) (x_one (x_expr (y_app (s_name (pv 1)) (s_tup (a_cons (s_name (pv 2)) (a_cons (s_erFD B.hK (s_name (pv 2)) (zs_cons ⟨err_InvalidPolicy, noat_InvalidPolicy_value⟩ (zs_cons ⟨err_NoPart, noat_NoPart_value⟩ (zs_cons ⟨err_InvalidBehaviour, noat_InvalidBehaviour_value⟩ (zs_cons ⟨err_Impossible, noat_Impossible_value⟩ (zs_cons ⟨err_TooLong, noat_TooLong_value⟩ zs_nil)))))) a_nil))))))) (x_cons (x_par (ps_par B.cm B.nd rfl rfl (by decide) rfl rfl (a_cons (s_erV_index B txt_ParseError g_ParseError (by rfl) (a_cons (s_name (pv 0)) a_nil)) (a_cons (s_erV_command B txt_CommandError g_CommandError (by rfl) (a_cons (s_name (pv 0)) a_nil)) a_nil)) rfl)) (x_cons (x_expr (y_ext (s_name (pv 1)) (s_lst (a_cons (s_tup (a_cons (s_name (pv 3)) (a_cons (s_erFD B.hK (s_name (pv 3)) (zs_cons ⟨err_ParseError, noat_ParseError_index⟩ zs_nil)) a_nil))) (a_cons (s_tup (a_cons (s_name (pv 4)) (a_cons (s_erFD B.hK (s_name (pv 4)) (zs_cons ⟨err_CommandError, noat_CommandError_command⟩ zs_nil)) a_nil))) a_nil))))) (x_cons (x_for B.hp B.cm (i_seq (s_tup (a_cons (s_erV0 B g_DifferentForms exc_DifferentForms (by rfl)) (a_cons (s_erV0 B g_TooManyKeys exc_TooManyKeys (by rfl)) (a_cons (s_erV0 B g_TooManySpans exc_TooManySpans (by rfl)) (a_cons (s_erV0 B g_TooManyEndings exc_TooManyEndings (by rfl)) (a_cons (s_erV0 B g_NothingToUndo exc_NothingToUndo (by rfl)) a_nil))))))) (t_name (pg_name (i := 2) B.nd rfl (by first | exact .inl rfl | exact .inr rfl))) (x_one (x_expr (y_app (s_name (pv 1)) (s_tup (a_cons (s_name (pv 2)) (a_cons (s_name (pv 0)) a_nil))))))) (x_one (x_ret (s_name (pv 1))))))))))
noncomputable def sb_law : Sv := (sSeq (sIf (mCmp (gIn false) (mK (.bool true)) (mCall sem__law_kinds (aCons (mV (mErV0 "PolicyError")) aNil))) (sRet (mK (.bool false))) sNil) (sSeq (sFor (iRg1 (aCons (mV (mCal (gII (fun i j => if j > i then j else i)) (aCons (mV (mK (.int 1))) (aCons (mV (mCal (gII (fun i j => if j < i then j else i)) (aCons (mV (mK (.int 3))) (aCons (mV (mCal (gLen) (aCons (mV (mN 0)) aNil))) aNil)))) aNil)))) aNil)) (gNm 1) (sSeq (sAsg (gNm 2) (mVc (mCall sem__law_urn (aCons (mV (mN 0)) (aCons (mV (mN 1)) aNil))))) (sFor (iOf (mLst (aCons (mV (mK .none)) (aCons (mV (mK (.bool true))) (aCons (mV (mCall sem__law_next (aCons (mVc (mN 2)) (aCons (mV (mBin (fI pPow fun i j => i ^ j.toNat) (mK (.int 10)) (mK (.int 9)))) aNil)))) (aCons (mV (mK (.int 0))) (aCons (mV (mK (.str ""))) (aCons (mV (mK (.str "abc"))) (aCons (mV (mTup aNil)) (aCons (mV (mTup (aCons (mV (mK (.int 0))) (aCons (mV (mK (.int 1))) aNil)))) (aCons (mV (mTup (aCons (mV (mK (.str "wait"))) (aCons (mV (mK (.int 3))) aNil)))) (aCons (mV (mLst aNil)) (aCons (mV mD0) aNil))))))))))))) (gNm 3) (sFor (iEn (aCons (mV (mCall sem__law_made (aCons (mV (mN 3)) aNil))) aNil)) (gTp 2 (gCons9 (gNm 4) (gCons9 (gTp 2 (gCons9 (gNm 5) (gCons9 (gNm 6) gNil9))) gNil9))) (sSeq (sIf (bOr (mCmp gNe (mCall sem__law_kinds (aCons (mV (mN 5)) aNil)) (mLc (iRg1 (aCons (mV (mK (.int 12))) aNil)) (gNm 7) ttY (bV (mCmp gEq (mN 4) (mN 7))) [7])) (mCmp gNe (mCal (g1 fRepr) (aCons (mV (mN 6)) aNil)) (mCal (g1 fRepr) (aCons (mV (mN 3)) aNil)))) (sRet (mK (.bool false))) sNil) (sIf (bOr (bNot (mTru (mIsD [("PolicyError", true), ("InvalidPolicy", true), ("NoPart", true), ("InvalidBehaviour", true), ("Impossible", true), ("DifferentForms", true), ("TooManyKeys", true), ("TooManySpans", true), ("TooManyEndings", true), ("TooLong", true), ("NothingToUndo", true), ("ParseError", true), ("CommandError", true)] (mN 5)))) (bNot (mTru (mIsVD [("PolicyError", true), ("InvalidPolicy", true), ("NoPart", true), ("InvalidBehaviour", true), ("Impossible", true), ("DifferentForms", true), ("TooManyKeys", true), ("TooManySpans", true), ("TooManyEndings", true), ("TooLong", true), ("NothingToUndo", true), ("ParseError", true), ("CommandError", true)] (mN 5))))) (sRet (mK (.bool false))) sNil)))))) (sRet (mK (.bool true)))))
noncomputable def sem_law : Fs := bodyF 8 1 sb_law
theorem fn_law {f : Addr} {fd : FuncData} (FL : FunD K "law" "law" (defArgs st_law) (defBody st_law) (defScope st_law) [] [] f fd) (G__law_kinds : Kn P w K mg base "_law_kinds" 1 sem__law_kinds) (G__law_made : Kn P w K mg base "_law_made" 1 sem__law_made) (G__law_next : Kn P w K mg base "_law_next" 1 sem__law_next) (G__law_urn : Kn P w K mg base "_law_urn" 1 sem__law_urn) (m_ValueError : mg "ValueError" = none) (m_enumerate : mg "enumerate" = none) (m_isinstance : mg "isinstance" = none) (m_len : mg "len" = none) (m_max : mg "max" = none) (m_min : mg "min" = none) (m_range : mg "range" = none) (m_repr : mg "repr" = none) (err_CommandError : ErrC K (He.ga K "CommandError")) (err_DifferentForms : ErrC K (He.ga K "DifferentForms")) (err_Impossible : ErrC K (He.ga K "Impossible")) (err_InvalidBehaviour : ErrC K (He.ga K "InvalidBehaviour")) (err_InvalidPolicy : ErrC K (He.ga K "InvalidPolicy")) (err_NoPart : ErrC K (He.ga K "NoPart")) (err_NothingToUndo : ErrC K (He.ga K "NothingToUndo")) (err_ParseError : ErrC K (He.ga K "ParseError")) (err_PolicyError : ErrC K (He.ga K "PolicyError")) (err_TooLong : ErrC K (He.ga K "TooLong")) (err_TooManyEndings : ErrC K (He.ga K "TooManyEndings")) (err_TooManyKeys : ErrC K (He.ga K "TooManyKeys")) (err_TooManySpans : ErrC K (He.ga K "TooManySpans")) (exc_PolicyError : PySem.W.excIn K (He.ga K "PolicyError") He.veBase "ValueError.__new__" = true ∧ PySem.W.keepIn K (.ref (He.ga K "PolicyError")) = true ∧ PySem.W.subIn K (.ref (He.ga K "PolicyError")) (.type "BaseException") = some true ∧ PySem.W.typeIn K (.ref (He.ga K "PolicyError")) = some (.type "type")) (g_PolicyError : mg "PolicyError" = some (.ref (He.ga K "PolicyError"))) (isN_PolicyError : PySem.W.kitAny K (.type "NoneType") [.ref (He.ga K "PolicyError")] = some false) (isV_CommandError : PySem.W.kitAny K (.ref (He.ga K "CommandError")) [.type "ValueError"] = some true) (isV_DifferentForms : PySem.W.kitAny K (.ref (He.ga K "DifferentForms")) [.type "ValueError"] = some true) (isV_Impossible : PySem.W.kitAny K (.ref (He.ga K "Impossible")) [.type "ValueError"] = some true) (isV_InvalidBehaviour : PySem.W.kitAny K (.ref (He.ga K "InvalidBehaviour")) [.type "ValueError"] = some true) (isV_InvalidPolicy : PySem.W.kitAny K (.ref (He.ga K "InvalidPolicy")) [.type "ValueError"] = some true) (isV_NoPart : PySem.W.kitAny K (.ref (He.ga K "NoPart")) [.type "ValueError"] = some true) (isV_NothingToUndo : PySem.W.kitAny K (.ref (He.ga K "NothingToUndo")) [.type "ValueError"] = some true) (isV_ParseError : PySem.W.kitAny K (.ref (He.ga K "ParseError")) [.type "ValueError"] = some true) (isV_PolicyError : PySem.W.kitAny K (.ref (He.ga K "PolicyError")) [.type "ValueError"] = some true) (isV_TooLong : PySem.W.kitAny K (.ref (He.ga K "TooLong")) [.type "ValueError"] = some true) (isV_TooManyEndings : PySem.W.kitAny K (.ref (He.ga K "TooManyEndings")) [.type "ValueError"] = some true) (isV_TooManyKeys : PySem.W.kitAny K (.ref (He.ga K "TooManyKeys")) [.type "ValueError"] = some true) (isV_TooManySpans : PySem.W.kitAny K (.ref (He.ga K "TooManySpans")) [.type "ValueError"] = some true) (is_CommandError_PolicyError : PySem.W.kitAny K (.ref (He.ga K "CommandError")) [.ref (He.ga K "PolicyError")] = some true) (is_DifferentForms_PolicyError : PySem.W.kitAny K (.ref (He.ga K "DifferentForms")) [.ref (He.ga K "PolicyError")] = some true) (is_Impossible_PolicyError : PySem.W.kitAny K (.ref (He.ga K "Impossible")) [.ref (He.ga K "PolicyError")] = some true) (is_InvalidBehaviour_PolicyError : PySem.W.kitAny K (.ref (He.ga K "InvalidBehaviour")) [.ref (He.ga K "PolicyError")] = some true) (is_InvalidPolicy_PolicyError : PySem.W.kitAny K (.ref (He.ga K "InvalidPolicy")) [.ref (He.ga K "PolicyError")] = some true) (is_NoPart_PolicyError : PySem.W.kitAny K (.ref (He.ga K "NoPart")) [.ref (He.ga K "PolicyError")] = some true) (is_NothingToUndo_PolicyError : PySem.W.kitAny K (.ref (He.ga K "NothingToUndo")) [.ref (He.ga K "PolicyError")] = some true) (is_ParseError_PolicyError : PySem.W.kitAny K (.ref (He.ga K "ParseError")) [.ref (He.ga K "PolicyError")] = some true) (is_PolicyError_PolicyError : PySem.W.kitAny K (.ref (He.ga K "PolicyError")) [.ref (He.ga K "PolicyError")] = some true) (is_TooLong_PolicyError : PySem.W.kitAny K (.ref (He.ga K "TooLong")) [.ref (He.ga K "PolicyError")] = some true) (is_TooManyEndings_PolicyError : PySem.W.kitAny K (.ref (He.ga K "TooManyEndings")) [.ref (He.ga K "PolicyError")] = some true) (is_TooManyKeys_PolicyError : PySem.W.kitAny K (.ref (He.ga K "TooManyKeys")) [.ref (He.ga K "PolicyError")] = some true) (is_TooManySpans_PolicyError : PySem.W.kitAny K (.ref (He.ga K "TooManySpans")) [.ref (He.ga K "PolicyError")] = some true) (sysK : SysK K) : FnC P w K mg base 2 f fd ["_law_script"] sem_law :=
  fn_def (k := 1) (N := ["_law_script", "_law_k", "_law_urn_here", "_law_item", "_law_at", "_law_error", "_law_value", "_law_other"]) (ps := ["_law_script"]) (sb := sb_law) FL ⟨rfl, rfl, rfl, by decide +kernel, rfl, by decide +kernel, by decide +kernel⟩ (fun cdv f A outer s H E B =>
    (x_cons (x_if (t_in s_bool (s_call B G__law_kinds (by decide) (by rfl) (a_cons (s_erV0 B g_PolicyError exc_PolicyError (by rfl)) a_nil)) rfl) (x_one (x_ret s_bool)) x_nil) (x_cons (x_for B.hp B.cm (i_rng1 (by rfl) m_range (a_cons (k_max B (by rfl) m_max (a_cons s_int (a_cons (k_min B (by rfl) m_min (a_cons s_int (a_cons (k_len B (by rfl) m_len (a_cons (s_name (pv 0)) a_nil)) a_nil))) a_nil))) a_nil)) (t_name (pg_name (i := 1) B.nd rfl (by first | exact .inl rfl | exact .inr rfl))) (x_cons (x_asg (pv_cell (s_call B G__law_urn (by decide) (by rfl) (a_cons (s_name (pv 0)) (a_cons (s_name (pv 1)) a_nil)))) (t_name (pg_name (i := 2) B.nd rfl (by first | exact .inl rfl | exact .inr rfl)))) (x_one (x_for B.hp B.cm (i_seq (s_lst (a_cons s_none (a_cons s_bool (a_cons (s_call B G__law_next (by decide) (by rfl) (a_consC (s_name (pv 2)) (a_cons (s_pow s_int s_int) a_nil))) (a_cons s_int (a_cons s_str (a_cons s_str (a_cons (s_tup a_nil) (a_cons (s_tup (a_cons s_int (a_cons s_int a_nil))) (a_cons (s_tup (a_cons s_str (a_cons s_int a_nil))) (a_cons (s_lst a_nil) (a_cons s_d0 a_nil))))))))))))) (t_name (pg_name (i := 3) B.nd rfl (by first | exact .inl rfl | exact .inr rfl))) (x_one (x_for B.hp B.cm (i_enum (by rfl) m_enumerate (a_cons (s_call B G__law_made (by decide) (by rfl) (a_cons (s_name (pv 3)) a_nil)) a_nil)) (t_tup B.cm (t_cons (t_name (pg_name (i := 4) B.nd rfl (by first | exact .inl rfl | exact .inr rfl))) (t_cons (t_tup B.cm (t_cons (t_name (pg_name (i := 5) B.nd rfl (by first | exact .inl rfl | exact .inr rfl))) (t_cons (t_name (pg_name (i := 6) B.nd rfl (by first | exact .inl rfl | exact .inr rfl))) t_nil))) t_nil))) (x_cons (x_if (PW.pt (w_or (t_ne B (s_call B G__law_kinds (by decide) (by rfl) (a_cons (s_name (pv 5)) a_nil)) (s_lc (own := [("_law_other", 7)]) B.cm B.nd (i_rng1 (by rfl) m_range (a_cons s_int a_nil)) (show BlkOk ["_law_script", "_law_k", "_law_urn_here", "_law_item", "_law_at", "_law_error", "_law_value", "_law_other"] (defScope st_law) _ _ from ⟨rfl, by decide +kernel, by decide +kernel, by decide +kernel, by decide +kernel⟩) (fun s1 H1 A1 cl1 fp1 => (t_name (pg_name (i := 7) (B.blk s1 H1 _ _ fp1).nd rfl (by first | exact .inl rfl | exact .inr rfl)))) (fun s1 H1 A1 cl1 fp1 => pts_yes) (fun s1 H1 A1 cl1 fp1 => (v_eq (B.blk s1 H1 _ _ fp1) (s_name (pv 4)) (s_name (pv 7)))) (by decide))) (w_or1 (t_ne B (k_repr B sysK (by rfl) m_repr (a_cons (s_name (pv 6)) a_nil)) (k_repr B sysK (by rfl) m_repr (a_cons (s_name (pv 3)) a_nil)))))) (x_one (x_ret s_bool)) x_nil) (x_one (x_if (PW.pt (w_or (s_notT (s_test (s_isD (cat := [("PolicyError", true), ("InvalidPolicy", true), ("NoPart", true), ("InvalidBehaviour", true), ("Impossible", true), ("DifferentForms", true), ("TooManyKeys", true), ("TooManySpans", true), ("TooManyEndings", true), ("TooLong", true), ("NothingToUndo", true), ("ParseError", true), ("CommandError", true)]) B.hK (by rfl) m_isinstance (s_name (pv 5)) (by rfl) g_PolicyError (cat_cons ⟨err_PolicyError, is_PolicyError_PolicyError⟩ (cat_cons ⟨err_InvalidPolicy, is_InvalidPolicy_PolicyError⟩ (cat_cons ⟨err_NoPart, is_NoPart_PolicyError⟩ (cat_cons ⟨err_InvalidBehaviour, is_InvalidBehaviour_PolicyError⟩ (cat_cons ⟨err_Impossible, is_Impossible_PolicyError⟩ (cat_cons ⟨err_DifferentForms, is_DifferentForms_PolicyError⟩ (cat_cons ⟨err_TooManyKeys, is_TooManyKeys_PolicyError⟩ (cat_cons ⟨err_TooManySpans, is_TooManySpans_PolicyError⟩ (cat_cons ⟨err_TooManyEndings, is_TooManyEndings_PolicyError⟩ (cat_cons ⟨err_TooLong, is_TooLong_PolicyError⟩ (cat_cons ⟨err_NothingToUndo, is_NothingToUndo_PolicyError⟩ (cat_cons ⟨err_ParseError, is_ParseError_PolicyError⟩ (cat_cons ⟨err_CommandError, is_CommandError_PolicyError⟩ cat_nil)))))))))))))) (fun _ => rfl))) (w_or1 (s_notT (s_test (s_isVD (cat := [("PolicyError", true), ("InvalidPolicy", true), ("NoPart", true), ("InvalidBehaviour", true), ("Impossible", true), ("DifferentForms", true), ("TooManyKeys", true), ("TooManySpans", true), ("TooManyEndings", true), ("TooLong", true), ("NothingToUndo", true), ("ParseError", true), ("CommandError", true)]) B.hK (by rfl) m_isinstance (s_name (pv 5)) (by rfl) m_ValueError (by decide +kernel) (cat_cons ⟨err_PolicyError, isV_PolicyError⟩ (cat_cons ⟨err_InvalidPolicy, isV_InvalidPolicy⟩ (cat_cons ⟨err_NoPart, isV_NoPart⟩ (cat_cons ⟨err_InvalidBehaviour, isV_InvalidBehaviour⟩ (cat_cons ⟨err_Impossible, isV_Impossible⟩ (cat_cons ⟨err_DifferentForms, isV_DifferentForms⟩ (cat_cons ⟨err_TooManyKeys, isV_TooManyKeys⟩ (cat_cons ⟨err_TooManySpans, isV_TooManySpans⟩ (cat_cons ⟨err_TooManyEndings, isV_TooManyEndings⟩ (cat_cons ⟨err_TooLong, isV_TooLong⟩ (cat_cons ⟨err_NothingToUndo, isV_NothingToUndo⟩ (cat_cons ⟨err_ParseError, isV_ParseError⟩ (cat_cons ⟨err_CommandError, isV_CommandError⟩ cat_nil)))))))))))))) (fun _ => rfl)))))) (x_one (x_ret s_bool)) x_nil))))))))) (x_one (x_ret s_bool)))))
end
def d__law_urn : He.DefD := ⟨("_law_urn", none), "_law_urn", "_law_urn", defArgs st__law_urn, defBody st__law_urn, defScope st__law_urn, [], []⟩
def d__law_next : He.DefD := ⟨("_law_next", none), "_law_next", "_law_next", defArgs st__law_next, defBody st__law_next, defScope st__law_next, [], []⟩
def d__law_kinds : He.DefD := ⟨("_law_kinds", none), "_law_kinds", "_law_kinds", defArgs st__law_kinds, defBody st__law_kinds, defScope st__law_kinds, [], []⟩
def d__law_made : He.DefD := ⟨("_law_made", none), "_law_made", "_law_made", defArgs st__law_made, defBody st__law_made, defScope st__law_made, [], []⟩
def d_law : He.DefD := ⟨("law", none), "law", "law", defArgs st_law, defBody st_law, defScope st_law, [], []⟩
abbrev sti_CommandError : Stmt := match top 13 with
  | .ClassDef _ _ _ b _ _ _ _ _ _ _ => b.getD 0 (.Pass ⟨0, 0, 0, 0⟩)
  | _ => .Pass ⟨0, 0, 0, 0⟩
def di_CommandError : He.DefD := ⟨("CommandError", some "__init__"), "__init__", "CommandError.__init__", defArgs sti_CommandError, defBody sti_CommandError, defScope sti_CommandError, [], []⟩
abbrev sti_Impossible : Stmt := match top 5 with
  | .ClassDef _ _ _ b _ _ _ _ _ _ _ => b.getD 0 (.Pass ⟨0, 0, 0, 0⟩)
  | _ => .Pass ⟨0, 0, 0, 0⟩
def di_Impossible : He.DefD := ⟨("Impossible", some "__init__"), "__init__", "Impossible.__init__", defArgs sti_Impossible, defBody sti_Impossible, defScope sti_Impossible, [], []⟩
abbrev sti_InvalidBehaviour : Stmt := match top 4 with
  | .ClassDef _ _ _ b _ _ _ _ _ _ _ => b.getD 0 (.Pass ⟨0, 0, 0, 0⟩)
  | _ => .Pass ⟨0, 0, 0, 0⟩
def di_InvalidBehaviour : He.DefD := ⟨("InvalidBehaviour", some "__init__"), "__init__", "InvalidBehaviour.__init__", defArgs sti_InvalidBehaviour, defBody sti_InvalidBehaviour, defScope sti_InvalidBehaviour, [], []⟩
abbrev sti_InvalidPolicy : Stmt := match top 2 with
  | .ClassDef _ _ _ b _ _ _ _ _ _ _ => b.getD 0 (.Pass ⟨0, 0, 0, 0⟩)
  | _ => .Pass ⟨0, 0, 0, 0⟩
def di_InvalidPolicy : He.DefD := ⟨("InvalidPolicy", some "__init__"), "__init__", "InvalidPolicy.__init__", defArgs sti_InvalidPolicy, defBody sti_InvalidPolicy, defScope sti_InvalidPolicy, [], []⟩
abbrev sti_NoPart : Stmt := match top 3 with
  | .ClassDef _ _ _ b _ _ _ _ _ _ _ => b.getD 0 (.Pass ⟨0, 0, 0, 0⟩)
  | _ => .Pass ⟨0, 0, 0, 0⟩
def di_NoPart : He.DefD := ⟨("NoPart", some "__init__"), "__init__", "NoPart.__init__", defArgs sti_NoPart, defBody sti_NoPart, defScope sti_NoPart, [], []⟩
abbrev sti_ParseError : Stmt := match top 12 with
  | .ClassDef _ _ _ b _ _ _ _ _ _ _ => b.getD 0 (.Pass ⟨0, 0, 0, 0⟩)
  | _ => .Pass ⟨0, 0, 0, 0⟩
def di_ParseError : He.DefD := ⟨("ParseError", some "__init__"), "__init__", "ParseError.__init__", defArgs sti_ParseError, defBody sti_ParseError, defScope sti_ParseError, [], []⟩
abbrev sti_TooLong : Stmt := match top 10 with
  | .ClassDef _ _ _ b _ _ _ _ _ _ _ => b.getD 0 (.Pass ⟨0, 0, 0, 0⟩)
  | _ => .Pass ⟨0, 0, 0, 0⟩
def di_TooLong : He.DefD := ⟨("TooLong", some "__init__"), "__init__", "TooLong.__init__", defArgs sti_TooLong, defBody sti_TooLong, defScope sti_TooLong, [], []⟩
def fn : List He.DefD := [d__law_urn, d__law_next, d__law_kinds, d__law_made, d_law, di_CommandError, di_Impossible, di_InvalidBehaviour, di_InvalidPolicy, di_NoPart, di_ParseError, di_TooLong]
def fa : List Fb := [(fun K => (He.Fa.glo "_law_urn").ok K),
  (fun K => (He.Fa.glo "_law_next").ok K),
  (fun K => (He.Fa.glo "_law_kinds").ok K),
  (fun K => (He.Fa.glo "_law_made").ok K),
  (fun K => (He.Fa.glo "law").ok K),
  (fun K => (He.Fa.free "ValueError").ok K),
  (fun K => (He.Fa.free "abs").ok K),
  (fun K => (He.Fa.free "enumerate").ok K),
  (fun K => (He.Fa.free "int").ok K),
  (fun K => (He.Fa.free "isinstance").ok K),
  (fun K => (He.Fa.free "len").ok K),
  (fun K => (He.Fa.free "max").ok K),
  (fun K => (He.Fa.free "min").ok K),
  (fun K => (He.Fa.free "range").ok K),
  (fun K => (He.Fa.free "repr").ok K),
  (errB "CommandError"),
  (errB "DifferentForms"),
  (errB "Impossible"),
  (errB "InvalidBehaviour"),
  (errB "InvalidPolicy"),
  (errB "NoPart"),
  (errB "NothingToUndo"),
  (errB "ParseError"),
  (errB "PolicyError"),
  (errB "TooLong"),
  (errB "TooManyEndings"),
  (errB "TooManyKeys"),
  (errB "TooManySpans"),
  (fun K => (He.Fa.exc "DifferentForms").ok K),
  (fun K => (He.Fa.exc "NothingToUndo").ok K),
  (fun K => (He.Fa.exc "PolicyError").ok K),
  (fun K => (He.Fa.exc "TooManyEndings").ok K),
  (fun K => (He.Fa.exc "TooManyKeys").ok K),
  (fun K => (He.Fa.exc "TooManySpans").ok K),
  (fun K => (He.Fa.glo "CommandError").ok K),
  (fun K => (He.Fa.glo "DifferentForms").ok K),
  (fun K => (He.Fa.glo "Impossible").ok K),
  (fun K => (He.Fa.glo "InvalidBehaviour").ok K),
  (fun K => (He.Fa.glo "InvalidPolicy").ok K),
  (fun K => (He.Fa.glo "NoPart").ok K),
  (fun K => (He.Fa.glo "NothingToUndo").ok K),
  (fun K => (He.Fa.glo "ParseError").ok K),
  (fun K => (He.Fa.glo "PolicyError").ok K),
  (fun K => (He.Fa.glo "TooLong").ok K),
  (fun K => (He.Fa.glo "TooManyEndings").ok K),
  (fun K => (He.Fa.glo "TooManyKeys").ok K),
  (fun K => (He.Fa.glo "TooManySpans").ok K),
  (isNB ["CommandError"]),
  (isNB ["DifferentForms"]),
  (isNB ["Impossible"]),
  (isNB ["InvalidBehaviour"]),
  (isNB ["InvalidPolicy"]),
  (isNB ["NoPart"]),
  (isNB ["NothingToUndo"]),
  (isNB ["ParseError"]),
  (isNB ["PolicyError"]),
  (isNB ["TooLong"]),
  (isNB ["TooManyEndings"]),
  (isNB ["TooManyKeys"]),
  (isNB ["TooManySpans"]),
  (isVB "CommandError" "ValueError" true),
  (isVB "DifferentForms" "ValueError" true),
  (isVB "Impossible" "ValueError" true),
  (isVB "InvalidBehaviour" "ValueError" true),
  (isVB "InvalidPolicy" "ValueError" true),
  (isVB "NoPart" "ValueError" true),
  (isVB "NothingToUndo" "ValueError" true),
  (isVB "ParseError" "ValueError" true),
  (isVB "PolicyError" "ValueError" true),
  (isVB "TooLong" "ValueError" true),
  (isVB "TooManyEndings" "ValueError" true),
  (isVB "TooManyKeys" "ValueError" true),
  (isVB "TooManySpans" "ValueError" true),
  (isB "CommandError" ["CommandError"] true),
  (isB "CommandError" ["DifferentForms"] false),
  (isB "CommandError" ["Impossible"] false),
  (isB "CommandError" ["InvalidBehaviour"] false),
  (isB "CommandError" ["InvalidPolicy"] false),
  (isB "CommandError" ["NoPart"] false),
  (isB "CommandError" ["NothingToUndo"] false),
  (isB "CommandError" ["ParseError"] false),
  (isB "CommandError" ["PolicyError"] true),
  (isB "CommandError" ["TooLong"] false),
  (isB "CommandError" ["TooManyEndings"] false),
  (isB "CommandError" ["TooManyKeys"] false),
  (isB "CommandError" ["TooManySpans"] false),
  (isB "DifferentForms" ["CommandError"] false),
  (isB "DifferentForms" ["DifferentForms"] true),
  (isB "DifferentForms" ["Impossible"] false),
  (isB "DifferentForms" ["InvalidBehaviour"] false),
  (isB "DifferentForms" ["InvalidPolicy"] false),
  (isB "DifferentForms" ["NoPart"] false),
  (isB "DifferentForms" ["NothingToUndo"] false),
  (isB "DifferentForms" ["ParseError"] false),
  (isB "DifferentForms" ["PolicyError"] true),
  (isB "DifferentForms" ["TooLong"] false),
  (isB "DifferentForms" ["TooManyEndings"] false),
  (isB "DifferentForms" ["TooManyKeys"] false),
  (isB "DifferentForms" ["TooManySpans"] false),
  (isB "Impossible" ["CommandError"] false),
  (isB "Impossible" ["DifferentForms"] false),
  (isB "Impossible" ["Impossible"] true),
  (isB "Impossible" ["InvalidBehaviour"] false),
  (isB "Impossible" ["InvalidPolicy"] false),
  (isB "Impossible" ["NoPart"] false),
  (isB "Impossible" ["NothingToUndo"] false),
  (isB "Impossible" ["ParseError"] false),
  (isB "Impossible" ["PolicyError"] true),
  (isB "Impossible" ["TooLong"] false),
  (isB "Impossible" ["TooManyEndings"] false),
  (isB "Impossible" ["TooManyKeys"] false),
  (isB "Impossible" ["TooManySpans"] false),
  (isB "InvalidBehaviour" ["CommandError"] false),
  (isB "InvalidBehaviour" ["DifferentForms"] false),
  (isB "InvalidBehaviour" ["Impossible"] false),
  (isB "InvalidBehaviour" ["InvalidBehaviour"] true),
  (isB "InvalidBehaviour" ["InvalidPolicy"] false),
  (isB "InvalidBehaviour" ["NoPart"] false),
  (isB "InvalidBehaviour" ["NothingToUndo"] false),
  (isB "InvalidBehaviour" ["ParseError"] false),
  (isB "InvalidBehaviour" ["PolicyError"] true),
  (isB "InvalidBehaviour" ["TooLong"] false),
  (isB "InvalidBehaviour" ["TooManyEndings"] false),
  (isB "InvalidBehaviour" ["TooManyKeys"] false),
  (isB "InvalidBehaviour" ["TooManySpans"] false),
  (isB "InvalidPolicy" ["CommandError"] false),
  (isB "InvalidPolicy" ["DifferentForms"] false),
  (isB "InvalidPolicy" ["Impossible"] false),
  (isB "InvalidPolicy" ["InvalidBehaviour"] false),
  (isB "InvalidPolicy" ["InvalidPolicy"] true),
  (isB "InvalidPolicy" ["NoPart"] false),
  (isB "InvalidPolicy" ["NothingToUndo"] false),
  (isB "InvalidPolicy" ["ParseError"] false),
  (isB "InvalidPolicy" ["PolicyError"] true),
  (isB "InvalidPolicy" ["TooLong"] false),
  (isB "InvalidPolicy" ["TooManyEndings"] false),
  (isB "InvalidPolicy" ["TooManyKeys"] false),
  (isB "InvalidPolicy" ["TooManySpans"] false),
  (isB "NoPart" ["CommandError"] false),
  (isB "NoPart" ["DifferentForms"] false),
  (isB "NoPart" ["Impossible"] false),
  (isB "NoPart" ["InvalidBehaviour"] false),
  (isB "NoPart" ["InvalidPolicy"] false),
  (isB "NoPart" ["NoPart"] true),
  (isB "NoPart" ["NothingToUndo"] false),
  (isB "NoPart" ["ParseError"] false),
  (isB "NoPart" ["PolicyError"] true),
  (isB "NoPart" ["TooLong"] false),
  (isB "NoPart" ["TooManyEndings"] false),
  (isB "NoPart" ["TooManyKeys"] false),
  (isB "NoPart" ["TooManySpans"] false),
  (isB "NothingToUndo" ["CommandError"] false),
  (isB "NothingToUndo" ["DifferentForms"] false),
  (isB "NothingToUndo" ["Impossible"] false),
  (isB "NothingToUndo" ["InvalidBehaviour"] false),
  (isB "NothingToUndo" ["InvalidPolicy"] false),
  (isB "NothingToUndo" ["NoPart"] false),
  (isB "NothingToUndo" ["NothingToUndo"] true),
  (isB "NothingToUndo" ["ParseError"] false),
  (isB "NothingToUndo" ["PolicyError"] true),
  (isB "NothingToUndo" ["TooLong"] false),
  (isB "NothingToUndo" ["TooManyEndings"] false),
  (isB "NothingToUndo" ["TooManyKeys"] false),
  (isB "NothingToUndo" ["TooManySpans"] false),
  (isB "ParseError" ["CommandError"] false),
  (isB "ParseError" ["DifferentForms"] false),
  (isB "ParseError" ["Impossible"] false),
  (isB "ParseError" ["InvalidBehaviour"] false),
  (isB "ParseError" ["InvalidPolicy"] false),
  (isB "ParseError" ["NoPart"] false),
  (isB "ParseError" ["NothingToUndo"] false),
  (isB "ParseError" ["ParseError"] true),
  (isB "ParseError" ["PolicyError"] true),
  (isB "ParseError" ["TooLong"] false),
  (isB "ParseError" ["TooManyEndings"] false),
  (isB "ParseError" ["TooManyKeys"] false),
  (isB "ParseError" ["TooManySpans"] false),
  (isB "PolicyError" ["CommandError"] false),
  (isB "PolicyError" ["DifferentForms"] false),
  (isB "PolicyError" ["Impossible"] false),
  (isB "PolicyError" ["InvalidBehaviour"] false),
  (isB "PolicyError" ["InvalidPolicy"] false),
  (isB "PolicyError" ["NoPart"] false),
  (isB "PolicyError" ["NothingToUndo"] false),
  (isB "PolicyError" ["ParseError"] false),
  (isB "PolicyError" ["PolicyError"] true),
  (isB "PolicyError" ["TooLong"] false),
  (isB "PolicyError" ["TooManyEndings"] false),
  (isB "PolicyError" ["TooManyKeys"] false),
  (isB "PolicyError" ["TooManySpans"] false),
  (isB "TooLong" ["CommandError"] false),
  (isB "TooLong" ["DifferentForms"] false),
  (isB "TooLong" ["Impossible"] false),
  (isB "TooLong" ["InvalidBehaviour"] false),
  (isB "TooLong" ["InvalidPolicy"] false),
  (isB "TooLong" ["NoPart"] false),
  (isB "TooLong" ["NothingToUndo"] false),
  (isB "TooLong" ["ParseError"] false),
  (isB "TooLong" ["PolicyError"] true),
  (isB "TooLong" ["TooLong"] true),
  (isB "TooLong" ["TooManyEndings"] false),
  (isB "TooLong" ["TooManyKeys"] false),
  (isB "TooLong" ["TooManySpans"] false),
  (isB "TooManyEndings" ["CommandError"] false),
  (isB "TooManyEndings" ["DifferentForms"] false),
  (isB "TooManyEndings" ["Impossible"] false),
  (isB "TooManyEndings" ["InvalidBehaviour"] false),
  (isB "TooManyEndings" ["InvalidPolicy"] false),
  (isB "TooManyEndings" ["NoPart"] false),
  (isB "TooManyEndings" ["NothingToUndo"] false),
  (isB "TooManyEndings" ["ParseError"] false),
  (isB "TooManyEndings" ["PolicyError"] true),
  (isB "TooManyEndings" ["TooLong"] false),
  (isB "TooManyEndings" ["TooManyEndings"] true),
  (isB "TooManyEndings" ["TooManyKeys"] false),
  (isB "TooManyEndings" ["TooManySpans"] false),
  (isB "TooManyKeys" ["CommandError"] false),
  (isB "TooManyKeys" ["DifferentForms"] false),
  (isB "TooManyKeys" ["Impossible"] false),
  (isB "TooManyKeys" ["InvalidBehaviour"] false),
  (isB "TooManyKeys" ["InvalidPolicy"] false),
  (isB "TooManyKeys" ["NoPart"] false),
  (isB "TooManyKeys" ["NothingToUndo"] false),
  (isB "TooManyKeys" ["ParseError"] false),
  (isB "TooManyKeys" ["PolicyError"] true),
  (isB "TooManyKeys" ["TooLong"] false),
  (isB "TooManyKeys" ["TooManyEndings"] false),
  (isB "TooManyKeys" ["TooManyKeys"] true),
  (isB "TooManyKeys" ["TooManySpans"] false),
  (isB "TooManySpans" ["CommandError"] false),
  (isB "TooManySpans" ["DifferentForms"] false),
  (isB "TooManySpans" ["Impossible"] false),
  (isB "TooManySpans" ["InvalidBehaviour"] false),
  (isB "TooManySpans" ["InvalidPolicy"] false),
  (isB "TooManySpans" ["NoPart"] false),
  (isB "TooManySpans" ["NothingToUndo"] false),
  (isB "TooManySpans" ["ParseError"] false),
  (isB "TooManySpans" ["PolicyError"] true),
  (isB "TooManySpans" ["TooLong"] false),
  (isB "TooManySpans" ["TooManyEndings"] false),
  (isB "TooManySpans" ["TooManyKeys"] false),
  (isB "TooManySpans" ["TooManySpans"] true),
  (fun K => (He.Fa.noat "CommandError" "command").ok K),
  (fun K => (He.Fa.noat "Impossible" "value").ok K),
  (fun K => (He.Fa.noat "InvalidBehaviour" "value").ok K),
  (fun K => (He.Fa.noat "InvalidPolicy" "value").ok K),
  (fun K => (He.Fa.noat "NoPart" "value").ok K),
  (fun K => (He.Fa.noat "ParseError" "index").ok K),
  (fun K => (He.Fa.noat "TooLong" "value").ok K),
  sysB,
  (Cfcommand.txtB "CommandError"),
  (Cfvalue.txtB "Impossible"),
  (Cfvalue.txtB "InvalidBehaviour"),
  (Cfvalue.txtB "InvalidPolicy"),
  (Cfvalue.txtB "NoPart"),
  (Cfindex.txtB "ParseError"),
  (Cfvalue.txtB "TooLong")]
abbrev R : PySem.W.OpenRow := PySem.W.OpenLaw.row PySem.Challenge.rw_callpolicy_k12_errors
def ts : List He.Tab := []
abbrev hk : PySem.W.Hook := hookXT 4 fa fn ts
def ob (s : PySem.W.SharedT) : AlX := obsXTG 4 fa fn ts (HandSHeadRun.getT s)
theorem ob_eq (s : PySem.W.SharedT) : ob s = hk.obs s.abs := obsXTG_eq (HandSHeadRun.getT_eq s)
def loose : List Str := "PolicyError" :: "InvalidPolicy" :: "NoPart" :: "InvalidBehaviour" :: "Impossible" :: "DifferentForms" :: "TooManyKeys" :: "TooManySpans" :: "TooManyEndings" :: "TooLong" :: "NothingToUndo" :: "ParseError" :: "CommandError" :: "_law_urn" :: "_law_next" :: "_law_kinds" :: "_law_made" :: ([] : List Str)
theorem run (w : World) : HandSHeadRun.RunEq R (PySem.W.view R.prog [19]) hk ob 4000 loose w := by
  intro os
  kernel_rfl
theorem facts {P : Program} {w : World} {K : PySem.W.Frag} {h : Heap} {mg : Str → Option Value} {f : Addr} (X : K.In h) (G : h.Ns mainGlobals mg) (hfa : mg ("law" : Str) = some (.ref f)) (cT : SaysXT fa fn ts w K) :
    ∃ fd : FuncData, (∀ (s : Shared) (v : Value), BindsTo s fd ⟨[v], []⟩ [("_law_script", v)]) ∧ ∀ base : Heap, K.In base → base.Ns mainGlobals mg → FnC P w K mg base 2 f fd ["_law_script"] sem_law := by
  have c := cT.x
  have m_ValueError : mg "ValueError" = none := He.free_ok X G (c.fact 5 (f := fun K => (He.Fa.free "ValueError").ok K) rfl)
  have m_abs : mg "abs" = none := He.free_ok X G (c.fact 6 (f := fun K => (He.Fa.free "abs").ok K) rfl)
  have m_enumerate : mg "enumerate" = none := He.free_ok X G (c.fact 7 (f := fun K => (He.Fa.free "enumerate").ok K) rfl)
  have m_int : mg "int" = none := He.free_ok X G (c.fact 8 (f := fun K => (He.Fa.free "int").ok K) rfl)
  have m_isinstance : mg "isinstance" = none := He.free_ok X G (c.fact 9 (f := fun K => (He.Fa.free "isinstance").ok K) rfl)
  have m_len : mg "len" = none := He.free_ok X G (c.fact 10 (f := fun K => (He.Fa.free "len").ok K) rfl)
  have m_max : mg "max" = none := He.free_ok X G (c.fact 11 (f := fun K => (He.Fa.free "max").ok K) rfl)
  have m_min : mg "min" = none := He.free_ok X G (c.fact 12 (f := fun K => (He.Fa.free "min").ok K) rfl)
  have m_range : mg "range" = none := He.free_ok X G (c.fact 13 (f := fun K => (He.Fa.free "range").ok K) rfl)
  have m_repr : mg "repr" = none := He.free_ok X G (c.fact 14 (f := fun K => (He.Fa.free "repr").ok K) rfl)
  have err_CommandError : ErrC K (He.ga K "CommandError") := errB_ok (c.fact 15 (f := (errB "CommandError")) rfl)
  have err_DifferentForms : ErrC K (He.ga K "DifferentForms") := errB_ok (c.fact 16 (f := (errB "DifferentForms")) rfl)
  have err_Impossible : ErrC K (He.ga K "Impossible") := errB_ok (c.fact 17 (f := (errB "Impossible")) rfl)
  have err_InvalidBehaviour : ErrC K (He.ga K "InvalidBehaviour") := errB_ok (c.fact 18 (f := (errB "InvalidBehaviour")) rfl)
  have err_InvalidPolicy : ErrC K (He.ga K "InvalidPolicy") := errB_ok (c.fact 19 (f := (errB "InvalidPolicy")) rfl)
  have err_NoPart : ErrC K (He.ga K "NoPart") := errB_ok (c.fact 20 (f := (errB "NoPart")) rfl)
  have err_NothingToUndo : ErrC K (He.ga K "NothingToUndo") := errB_ok (c.fact 21 (f := (errB "NothingToUndo")) rfl)
  have err_ParseError : ErrC K (He.ga K "ParseError") := errB_ok (c.fact 22 (f := (errB "ParseError")) rfl)
  have err_PolicyError : ErrC K (He.ga K "PolicyError") := errB_ok (c.fact 23 (f := (errB "PolicyError")) rfl)
  have err_TooLong : ErrC K (He.ga K "TooLong") := errB_ok (c.fact 24 (f := (errB "TooLong")) rfl)
  have err_TooManyEndings : ErrC K (He.ga K "TooManyEndings") := errB_ok (c.fact 25 (f := (errB "TooManyEndings")) rfl)
  have err_TooManyKeys : ErrC K (He.ga K "TooManyKeys") := errB_ok (c.fact 26 (f := (errB "TooManyKeys")) rfl)
  have err_TooManySpans : ErrC K (He.ga K "TooManySpans") := errB_ok (c.fact 27 (f := (errB "TooManySpans")) rfl)
  have exc_DifferentForms : PySem.W.excIn K (He.ga K "DifferentForms") He.veBase "ValueError.__new__" = true ∧ PySem.W.keepIn K (.ref (He.ga K "DifferentForms")) = true ∧ PySem.W.subIn K (.ref (He.ga K "DifferentForms")) (.type "BaseException") = some true ∧ PySem.W.typeIn K (.ref (He.ga K "DifferentForms")) = some (.type "type") := He.exc_ok (c.fact 28 (f := (fun K => (He.Fa.exc "DifferentForms").ok K)) rfl)
  have exc_NothingToUndo : PySem.W.excIn K (He.ga K "NothingToUndo") He.veBase "ValueError.__new__" = true ∧ PySem.W.keepIn K (.ref (He.ga K "NothingToUndo")) = true ∧ PySem.W.subIn K (.ref (He.ga K "NothingToUndo")) (.type "BaseException") = some true ∧ PySem.W.typeIn K (.ref (He.ga K "NothingToUndo")) = some (.type "type") := He.exc_ok (c.fact 29 (f := (fun K => (He.Fa.exc "NothingToUndo").ok K)) rfl)
  have exc_PolicyError : PySem.W.excIn K (He.ga K "PolicyError") He.veBase "ValueError.__new__" = true ∧ PySem.W.keepIn K (.ref (He.ga K "PolicyError")) = true ∧ PySem.W.subIn K (.ref (He.ga K "PolicyError")) (.type "BaseException") = some true ∧ PySem.W.typeIn K (.ref (He.ga K "PolicyError")) = some (.type "type") := He.exc_ok (c.fact 30 (f := (fun K => (He.Fa.exc "PolicyError").ok K)) rfl)
  have exc_TooManyEndings : PySem.W.excIn K (He.ga K "TooManyEndings") He.veBase "ValueError.__new__" = true ∧ PySem.W.keepIn K (.ref (He.ga K "TooManyEndings")) = true ∧ PySem.W.subIn K (.ref (He.ga K "TooManyEndings")) (.type "BaseException") = some true ∧ PySem.W.typeIn K (.ref (He.ga K "TooManyEndings")) = some (.type "type") := He.exc_ok (c.fact 31 (f := (fun K => (He.Fa.exc "TooManyEndings").ok K)) rfl)
  have exc_TooManyKeys : PySem.W.excIn K (He.ga K "TooManyKeys") He.veBase "ValueError.__new__" = true ∧ PySem.W.keepIn K (.ref (He.ga K "TooManyKeys")) = true ∧ PySem.W.subIn K (.ref (He.ga K "TooManyKeys")) (.type "BaseException") = some true ∧ PySem.W.typeIn K (.ref (He.ga K "TooManyKeys")) = some (.type "type") := He.exc_ok (c.fact 32 (f := (fun K => (He.Fa.exc "TooManyKeys").ok K)) rfl)
  have exc_TooManySpans : PySem.W.excIn K (He.ga K "TooManySpans") He.veBase "ValueError.__new__" = true ∧ PySem.W.keepIn K (.ref (He.ga K "TooManySpans")) = true ∧ PySem.W.subIn K (.ref (He.ga K "TooManySpans")) (.type "BaseException") = some true ∧ PySem.W.typeIn K (.ref (He.ga K "TooManySpans")) = some (.type "type") := He.exc_ok (c.fact 33 (f := (fun K => (He.Fa.exc "TooManySpans").ok K)) rfl)
  have g_CommandError : mg "CommandError" = some (.ref (He.ga K "CommandError")) := He.glo_ok X G (c.fact 34 (f := (fun K => (He.Fa.glo "CommandError").ok K)) rfl)
  have g_DifferentForms : mg "DifferentForms" = some (.ref (He.ga K "DifferentForms")) := He.glo_ok X G (c.fact 35 (f := (fun K => (He.Fa.glo "DifferentForms").ok K)) rfl)
  have g_Impossible : mg "Impossible" = some (.ref (He.ga K "Impossible")) := He.glo_ok X G (c.fact 36 (f := (fun K => (He.Fa.glo "Impossible").ok K)) rfl)
  have g_InvalidBehaviour : mg "InvalidBehaviour" = some (.ref (He.ga K "InvalidBehaviour")) := He.glo_ok X G (c.fact 37 (f := (fun K => (He.Fa.glo "InvalidBehaviour").ok K)) rfl)
  have g_InvalidPolicy : mg "InvalidPolicy" = some (.ref (He.ga K "InvalidPolicy")) := He.glo_ok X G (c.fact 38 (f := (fun K => (He.Fa.glo "InvalidPolicy").ok K)) rfl)
  have g_NoPart : mg "NoPart" = some (.ref (He.ga K "NoPart")) := He.glo_ok X G (c.fact 39 (f := (fun K => (He.Fa.glo "NoPart").ok K)) rfl)
  have g_NothingToUndo : mg "NothingToUndo" = some (.ref (He.ga K "NothingToUndo")) := He.glo_ok X G (c.fact 40 (f := (fun K => (He.Fa.glo "NothingToUndo").ok K)) rfl)
  have g_ParseError : mg "ParseError" = some (.ref (He.ga K "ParseError")) := He.glo_ok X G (c.fact 41 (f := (fun K => (He.Fa.glo "ParseError").ok K)) rfl)
  have g_PolicyError : mg "PolicyError" = some (.ref (He.ga K "PolicyError")) := He.glo_ok X G (c.fact 42 (f := (fun K => (He.Fa.glo "PolicyError").ok K)) rfl)
  have g_TooLong : mg "TooLong" = some (.ref (He.ga K "TooLong")) := He.glo_ok X G (c.fact 43 (f := (fun K => (He.Fa.glo "TooLong").ok K)) rfl)
  have g_TooManyEndings : mg "TooManyEndings" = some (.ref (He.ga K "TooManyEndings")) := He.glo_ok X G (c.fact 44 (f := (fun K => (He.Fa.glo "TooManyEndings").ok K)) rfl)
  have g_TooManyKeys : mg "TooManyKeys" = some (.ref (He.ga K "TooManyKeys")) := He.glo_ok X G (c.fact 45 (f := (fun K => (He.Fa.glo "TooManyKeys").ok K)) rfl)
  have g_TooManySpans : mg "TooManySpans" = some (.ref (He.ga K "TooManySpans")) := He.glo_ok X G (c.fact 46 (f := (fun K => (He.Fa.glo "TooManySpans").ok K)) rfl)
  have isN_CommandError : PySem.W.kitAny K (.type "NoneType") [.ref (He.ga K "CommandError")] = some false := of_decide_eq_true (c.fact 47 (f := (isNB ["CommandError"])) rfl)
  have isN_DifferentForms : PySem.W.kitAny K (.type "NoneType") [.ref (He.ga K "DifferentForms")] = some false := of_decide_eq_true (c.fact 48 (f := (isNB ["DifferentForms"])) rfl)
  have isN_Impossible : PySem.W.kitAny K (.type "NoneType") [.ref (He.ga K "Impossible")] = some false := of_decide_eq_true (c.fact 49 (f := (isNB ["Impossible"])) rfl)
  have isN_InvalidBehaviour : PySem.W.kitAny K (.type "NoneType") [.ref (He.ga K "InvalidBehaviour")] = some false := of_decide_eq_true (c.fact 50 (f := (isNB ["InvalidBehaviour"])) rfl)
  have isN_InvalidPolicy : PySem.W.kitAny K (.type "NoneType") [.ref (He.ga K "InvalidPolicy")] = some false := of_decide_eq_true (c.fact 51 (f := (isNB ["InvalidPolicy"])) rfl)
  have isN_NoPart : PySem.W.kitAny K (.type "NoneType") [.ref (He.ga K "NoPart")] = some false := of_decide_eq_true (c.fact 52 (f := (isNB ["NoPart"])) rfl)
  have isN_NothingToUndo : PySem.W.kitAny K (.type "NoneType") [.ref (He.ga K "NothingToUndo")] = some false := of_decide_eq_true (c.fact 53 (f := (isNB ["NothingToUndo"])) rfl)
  have isN_ParseError : PySem.W.kitAny K (.type "NoneType") [.ref (He.ga K "ParseError")] = some false := of_decide_eq_true (c.fact 54 (f := (isNB ["ParseError"])) rfl)
  have isN_PolicyError : PySem.W.kitAny K (.type "NoneType") [.ref (He.ga K "PolicyError")] = some false := of_decide_eq_true (c.fact 55 (f := (isNB ["PolicyError"])) rfl)
  have isN_TooLong : PySem.W.kitAny K (.type "NoneType") [.ref (He.ga K "TooLong")] = some false := of_decide_eq_true (c.fact 56 (f := (isNB ["TooLong"])) rfl)
  have isN_TooManyEndings : PySem.W.kitAny K (.type "NoneType") [.ref (He.ga K "TooManyEndings")] = some false := of_decide_eq_true (c.fact 57 (f := (isNB ["TooManyEndings"])) rfl)
  have isN_TooManyKeys : PySem.W.kitAny K (.type "NoneType") [.ref (He.ga K "TooManyKeys")] = some false := of_decide_eq_true (c.fact 58 (f := (isNB ["TooManyKeys"])) rfl)
  have isN_TooManySpans : PySem.W.kitAny K (.type "NoneType") [.ref (He.ga K "TooManySpans")] = some false := of_decide_eq_true (c.fact 59 (f := (isNB ["TooManySpans"])) rfl)
  have isV_CommandError : PySem.W.kitAny K (.ref (He.ga K "CommandError")) [.type "ValueError"] = some true := of_decide_eq_true (c.fact 60 (f := (isVB "CommandError" "ValueError" true)) rfl)
  have isV_DifferentForms : PySem.W.kitAny K (.ref (He.ga K "DifferentForms")) [.type "ValueError"] = some true := of_decide_eq_true (c.fact 61 (f := (isVB "DifferentForms" "ValueError" true)) rfl)
  have isV_Impossible : PySem.W.kitAny K (.ref (He.ga K "Impossible")) [.type "ValueError"] = some true := of_decide_eq_true (c.fact 62 (f := (isVB "Impossible" "ValueError" true)) rfl)
  have isV_InvalidBehaviour : PySem.W.kitAny K (.ref (He.ga K "InvalidBehaviour")) [.type "ValueError"] = some true := of_decide_eq_true (c.fact 63 (f := (isVB "InvalidBehaviour" "ValueError" true)) rfl)
  have isV_InvalidPolicy : PySem.W.kitAny K (.ref (He.ga K "InvalidPolicy")) [.type "ValueError"] = some true := of_decide_eq_true (c.fact 64 (f := (isVB "InvalidPolicy" "ValueError" true)) rfl)
  have isV_NoPart : PySem.W.kitAny K (.ref (He.ga K "NoPart")) [.type "ValueError"] = some true := of_decide_eq_true (c.fact 65 (f := (isVB "NoPart" "ValueError" true)) rfl)
  have isV_NothingToUndo : PySem.W.kitAny K (.ref (He.ga K "NothingToUndo")) [.type "ValueError"] = some true := of_decide_eq_true (c.fact 66 (f := (isVB "NothingToUndo" "ValueError" true)) rfl)
  have isV_ParseError : PySem.W.kitAny K (.ref (He.ga K "ParseError")) [.type "ValueError"] = some true := of_decide_eq_true (c.fact 67 (f := (isVB "ParseError" "ValueError" true)) rfl)
  have isV_PolicyError : PySem.W.kitAny K (.ref (He.ga K "PolicyError")) [.type "ValueError"] = some true := of_decide_eq_true (c.fact 68 (f := (isVB "PolicyError" "ValueError" true)) rfl)
  have isV_TooLong : PySem.W.kitAny K (.ref (He.ga K "TooLong")) [.type "ValueError"] = some true := of_decide_eq_true (c.fact 69 (f := (isVB "TooLong" "ValueError" true)) rfl)
  have isV_TooManyEndings : PySem.W.kitAny K (.ref (He.ga K "TooManyEndings")) [.type "ValueError"] = some true := of_decide_eq_true (c.fact 70 (f := (isVB "TooManyEndings" "ValueError" true)) rfl)
  have isV_TooManyKeys : PySem.W.kitAny K (.ref (He.ga K "TooManyKeys")) [.type "ValueError"] = some true := of_decide_eq_true (c.fact 71 (f := (isVB "TooManyKeys" "ValueError" true)) rfl)
  have isV_TooManySpans : PySem.W.kitAny K (.ref (He.ga K "TooManySpans")) [.type "ValueError"] = some true := of_decide_eq_true (c.fact 72 (f := (isVB "TooManySpans" "ValueError" true)) rfl)
  have is_CommandError_CommandError : PySem.W.kitAny K (.ref (He.ga K "CommandError")) [.ref (He.ga K "CommandError")] = some true := of_decide_eq_true (c.fact 73 (f := (isB "CommandError" ["CommandError"] true)) rfl)
  have is_CommandError_DifferentForms : PySem.W.kitAny K (.ref (He.ga K "CommandError")) [.ref (He.ga K "DifferentForms")] = some false := of_decide_eq_true (c.fact 74 (f := (isB "CommandError" ["DifferentForms"] false)) rfl)
  have is_CommandError_Impossible : PySem.W.kitAny K (.ref (He.ga K "CommandError")) [.ref (He.ga K "Impossible")] = some false := of_decide_eq_true (c.fact 75 (f := (isB "CommandError" ["Impossible"] false)) rfl)
  have is_CommandError_InvalidBehaviour : PySem.W.kitAny K (.ref (He.ga K "CommandError")) [.ref (He.ga K "InvalidBehaviour")] = some false := of_decide_eq_true (c.fact 76 (f := (isB "CommandError" ["InvalidBehaviour"] false)) rfl)
  have is_CommandError_InvalidPolicy : PySem.W.kitAny K (.ref (He.ga K "CommandError")) [.ref (He.ga K "InvalidPolicy")] = some false := of_decide_eq_true (c.fact 77 (f := (isB "CommandError" ["InvalidPolicy"] false)) rfl)
  have is_CommandError_NoPart : PySem.W.kitAny K (.ref (He.ga K "CommandError")) [.ref (He.ga K "NoPart")] = some false := of_decide_eq_true (c.fact 78 (f := (isB "CommandError" ["NoPart"] false)) rfl)
  have is_CommandError_NothingToUndo : PySem.W.kitAny K (.ref (He.ga K "CommandError")) [.ref (He.ga K "NothingToUndo")] = some false := of_decide_eq_true (c.fact 79 (f := (isB "CommandError" ["NothingToUndo"] false)) rfl)
  have is_CommandError_ParseError : PySem.W.kitAny K (.ref (He.ga K "CommandError")) [.ref (He.ga K "ParseError")] = some false := of_decide_eq_true (c.fact 80 (f := (isB "CommandError" ["ParseError"] false)) rfl)
  have is_CommandError_PolicyError : PySem.W.kitAny K (.ref (He.ga K "CommandError")) [.ref (He.ga K "PolicyError")] = some true := of_decide_eq_true (c.fact 81 (f := (isB "CommandError" ["PolicyError"] true)) rfl)
  have is_CommandError_TooLong : PySem.W.kitAny K (.ref (He.ga K "CommandError")) [.ref (He.ga K "TooLong")] = some false := of_decide_eq_true (c.fact 82 (f := (isB "CommandError" ["TooLong"] false)) rfl)
  have is_CommandError_TooManyEndings : PySem.W.kitAny K (.ref (He.ga K "CommandError")) [.ref (He.ga K "TooManyEndings")] = some false := of_decide_eq_true (c.fact 83 (f := (isB "CommandError" ["TooManyEndings"] false)) rfl)
  have is_CommandError_TooManyKeys : PySem.W.kitAny K (.ref (He.ga K "CommandError")) [.ref (He.ga K "TooManyKeys")] = some false := of_decide_eq_true (c.fact 84 (f := (isB "CommandError" ["TooManyKeys"] false)) rfl)
  have is_CommandError_TooManySpans : PySem.W.kitAny K (.ref (He.ga K "CommandError")) [.ref (He.ga K "TooManySpans")] = some false := of_decide_eq_true (c.fact 85 (f := (isB "CommandError" ["TooManySpans"] false)) rfl)
  have is_DifferentForms_CommandError : PySem.W.kitAny K (.ref (He.ga K "DifferentForms")) [.ref (He.ga K "CommandError")] = some false := of_decide_eq_true (c.fact 86 (f := (isB "DifferentForms" ["CommandError"] false)) rfl)
  have is_DifferentForms_DifferentForms : PySem.W.kitAny K (.ref (He.ga K "DifferentForms")) [.ref (He.ga K "DifferentForms")] = some true := of_decide_eq_true (c.fact 87 (f := (isB "DifferentForms" ["DifferentForms"] true)) rfl)
  have is_DifferentForms_Impossible : PySem.W.kitAny K (.ref (He.ga K "DifferentForms")) [.ref (He.ga K "Impossible")] = some false := of_decide_eq_true (c.fact 88 (f := (isB "DifferentForms" ["Impossible"] false)) rfl)
  have is_DifferentForms_InvalidBehaviour : PySem.W.kitAny K (.ref (He.ga K "DifferentForms")) [.ref (He.ga K "InvalidBehaviour")] = some false := of_decide_eq_true (c.fact 89 (f := (isB "DifferentForms" ["InvalidBehaviour"] false)) rfl)
  have is_DifferentForms_InvalidPolicy : PySem.W.kitAny K (.ref (He.ga K "DifferentForms")) [.ref (He.ga K "InvalidPolicy")] = some false := of_decide_eq_true (c.fact 90 (f := (isB "DifferentForms" ["InvalidPolicy"] false)) rfl)
  have is_DifferentForms_NoPart : PySem.W.kitAny K (.ref (He.ga K "DifferentForms")) [.ref (He.ga K "NoPart")] = some false := of_decide_eq_true (c.fact 91 (f := (isB "DifferentForms" ["NoPart"] false)) rfl)
  have is_DifferentForms_NothingToUndo : PySem.W.kitAny K (.ref (He.ga K "DifferentForms")) [.ref (He.ga K "NothingToUndo")] = some false := of_decide_eq_true (c.fact 92 (f := (isB "DifferentForms" ["NothingToUndo"] false)) rfl)
  have is_DifferentForms_ParseError : PySem.W.kitAny K (.ref (He.ga K "DifferentForms")) [.ref (He.ga K "ParseError")] = some false := of_decide_eq_true (c.fact 93 (f := (isB "DifferentForms" ["ParseError"] false)) rfl)
  have is_DifferentForms_PolicyError : PySem.W.kitAny K (.ref (He.ga K "DifferentForms")) [.ref (He.ga K "PolicyError")] = some true := of_decide_eq_true (c.fact 94 (f := (isB "DifferentForms" ["PolicyError"] true)) rfl)
  have is_DifferentForms_TooLong : PySem.W.kitAny K (.ref (He.ga K "DifferentForms")) [.ref (He.ga K "TooLong")] = some false := of_decide_eq_true (c.fact 95 (f := (isB "DifferentForms" ["TooLong"] false)) rfl)
  have is_DifferentForms_TooManyEndings : PySem.W.kitAny K (.ref (He.ga K "DifferentForms")) [.ref (He.ga K "TooManyEndings")] = some false := of_decide_eq_true (c.fact 96 (f := (isB "DifferentForms" ["TooManyEndings"] false)) rfl)
  have is_DifferentForms_TooManyKeys : PySem.W.kitAny K (.ref (He.ga K "DifferentForms")) [.ref (He.ga K "TooManyKeys")] = some false := of_decide_eq_true (c.fact 97 (f := (isB "DifferentForms" ["TooManyKeys"] false)) rfl)
  have is_DifferentForms_TooManySpans : PySem.W.kitAny K (.ref (He.ga K "DifferentForms")) [.ref (He.ga K "TooManySpans")] = some false := of_decide_eq_true (c.fact 98 (f := (isB "DifferentForms" ["TooManySpans"] false)) rfl)
  have is_Impossible_CommandError : PySem.W.kitAny K (.ref (He.ga K "Impossible")) [.ref (He.ga K "CommandError")] = some false := of_decide_eq_true (c.fact 99 (f := (isB "Impossible" ["CommandError"] false)) rfl)
  have is_Impossible_DifferentForms : PySem.W.kitAny K (.ref (He.ga K "Impossible")) [.ref (He.ga K "DifferentForms")] = some false := of_decide_eq_true (c.fact 100 (f := (isB "Impossible" ["DifferentForms"] false)) rfl)
  have is_Impossible_Impossible : PySem.W.kitAny K (.ref (He.ga K "Impossible")) [.ref (He.ga K "Impossible")] = some true := of_decide_eq_true (c.fact 101 (f := (isB "Impossible" ["Impossible"] true)) rfl)
  have is_Impossible_InvalidBehaviour : PySem.W.kitAny K (.ref (He.ga K "Impossible")) [.ref (He.ga K "InvalidBehaviour")] = some false := of_decide_eq_true (c.fact 102 (f := (isB "Impossible" ["InvalidBehaviour"] false)) rfl)
  have is_Impossible_InvalidPolicy : PySem.W.kitAny K (.ref (He.ga K "Impossible")) [.ref (He.ga K "InvalidPolicy")] = some false := of_decide_eq_true (c.fact 103 (f := (isB "Impossible" ["InvalidPolicy"] false)) rfl)
  have is_Impossible_NoPart : PySem.W.kitAny K (.ref (He.ga K "Impossible")) [.ref (He.ga K "NoPart")] = some false := of_decide_eq_true (c.fact 104 (f := (isB "Impossible" ["NoPart"] false)) rfl)
  have is_Impossible_NothingToUndo : PySem.W.kitAny K (.ref (He.ga K "Impossible")) [.ref (He.ga K "NothingToUndo")] = some false := of_decide_eq_true (c.fact 105 (f := (isB "Impossible" ["NothingToUndo"] false)) rfl)
  have is_Impossible_ParseError : PySem.W.kitAny K (.ref (He.ga K "Impossible")) [.ref (He.ga K "ParseError")] = some false := of_decide_eq_true (c.fact 106 (f := (isB "Impossible" ["ParseError"] false)) rfl)
  have is_Impossible_PolicyError : PySem.W.kitAny K (.ref (He.ga K "Impossible")) [.ref (He.ga K "PolicyError")] = some true := of_decide_eq_true (c.fact 107 (f := (isB "Impossible" ["PolicyError"] true)) rfl)
  have is_Impossible_TooLong : PySem.W.kitAny K (.ref (He.ga K "Impossible")) [.ref (He.ga K "TooLong")] = some false := of_decide_eq_true (c.fact 108 (f := (isB "Impossible" ["TooLong"] false)) rfl)
  have is_Impossible_TooManyEndings : PySem.W.kitAny K (.ref (He.ga K "Impossible")) [.ref (He.ga K "TooManyEndings")] = some false := of_decide_eq_true (c.fact 109 (f := (isB "Impossible" ["TooManyEndings"] false)) rfl)
  have is_Impossible_TooManyKeys : PySem.W.kitAny K (.ref (He.ga K "Impossible")) [.ref (He.ga K "TooManyKeys")] = some false := of_decide_eq_true (c.fact 110 (f := (isB "Impossible" ["TooManyKeys"] false)) rfl)
  have is_Impossible_TooManySpans : PySem.W.kitAny K (.ref (He.ga K "Impossible")) [.ref (He.ga K "TooManySpans")] = some false := of_decide_eq_true (c.fact 111 (f := (isB "Impossible" ["TooManySpans"] false)) rfl)
  have is_InvalidBehaviour_CommandError : PySem.W.kitAny K (.ref (He.ga K "InvalidBehaviour")) [.ref (He.ga K "CommandError")] = some false := of_decide_eq_true (c.fact 112 (f := (isB "InvalidBehaviour" ["CommandError"] false)) rfl)
  have is_InvalidBehaviour_DifferentForms : PySem.W.kitAny K (.ref (He.ga K "InvalidBehaviour")) [.ref (He.ga K "DifferentForms")] = some false := of_decide_eq_true (c.fact 113 (f := (isB "InvalidBehaviour" ["DifferentForms"] false)) rfl)
  have is_InvalidBehaviour_Impossible : PySem.W.kitAny K (.ref (He.ga K "InvalidBehaviour")) [.ref (He.ga K "Impossible")] = some false := of_decide_eq_true (c.fact 114 (f := (isB "InvalidBehaviour" ["Impossible"] false)) rfl)
  have is_InvalidBehaviour_InvalidBehaviour : PySem.W.kitAny K (.ref (He.ga K "InvalidBehaviour")) [.ref (He.ga K "InvalidBehaviour")] = some true := of_decide_eq_true (c.fact 115 (f := (isB "InvalidBehaviour" ["InvalidBehaviour"] true)) rfl)
  have is_InvalidBehaviour_InvalidPolicy : PySem.W.kitAny K (.ref (He.ga K "InvalidBehaviour")) [.ref (He.ga K "InvalidPolicy")] = some false := of_decide_eq_true (c.fact 116 (f := (isB "InvalidBehaviour" ["InvalidPolicy"] false)) rfl)
  have is_InvalidBehaviour_NoPart : PySem.W.kitAny K (.ref (He.ga K "InvalidBehaviour")) [.ref (He.ga K "NoPart")] = some false := of_decide_eq_true (c.fact 117 (f := (isB "InvalidBehaviour" ["NoPart"] false)) rfl)
  have is_InvalidBehaviour_NothingToUndo : PySem.W.kitAny K (.ref (He.ga K "InvalidBehaviour")) [.ref (He.ga K "NothingToUndo")] = some false := of_decide_eq_true (c.fact 118 (f := (isB "InvalidBehaviour" ["NothingToUndo"] false)) rfl)
  have is_InvalidBehaviour_ParseError : PySem.W.kitAny K (.ref (He.ga K "InvalidBehaviour")) [.ref (He.ga K "ParseError")] = some false := of_decide_eq_true (c.fact 119 (f := (isB "InvalidBehaviour" ["ParseError"] false)) rfl)
  have is_InvalidBehaviour_PolicyError : PySem.W.kitAny K (.ref (He.ga K "InvalidBehaviour")) [.ref (He.ga K "PolicyError")] = some true := of_decide_eq_true (c.fact 120 (f := (isB "InvalidBehaviour" ["PolicyError"] true)) rfl)
  have is_InvalidBehaviour_TooLong : PySem.W.kitAny K (.ref (He.ga K "InvalidBehaviour")) [.ref (He.ga K "TooLong")] = some false := of_decide_eq_true (c.fact 121 (f := (isB "InvalidBehaviour" ["TooLong"] false)) rfl)
  have is_InvalidBehaviour_TooManyEndings : PySem.W.kitAny K (.ref (He.ga K "InvalidBehaviour")) [.ref (He.ga K "TooManyEndings")] = some false := of_decide_eq_true (c.fact 122 (f := (isB "InvalidBehaviour" ["TooManyEndings"] false)) rfl)
  have is_InvalidBehaviour_TooManyKeys : PySem.W.kitAny K (.ref (He.ga K "InvalidBehaviour")) [.ref (He.ga K "TooManyKeys")] = some false := of_decide_eq_true (c.fact 123 (f := (isB "InvalidBehaviour" ["TooManyKeys"] false)) rfl)
  have is_InvalidBehaviour_TooManySpans : PySem.W.kitAny K (.ref (He.ga K "InvalidBehaviour")) [.ref (He.ga K "TooManySpans")] = some false := of_decide_eq_true (c.fact 124 (f := (isB "InvalidBehaviour" ["TooManySpans"] false)) rfl)
  have is_InvalidPolicy_CommandError : PySem.W.kitAny K (.ref (He.ga K "InvalidPolicy")) [.ref (He.ga K "CommandError")] = some false := of_decide_eq_true (c.fact 125 (f := (isB "InvalidPolicy" ["CommandError"] false)) rfl)
  have is_InvalidPolicy_DifferentForms : PySem.W.kitAny K (.ref (He.ga K "InvalidPolicy")) [.ref (He.ga K "DifferentForms")] = some false := of_decide_eq_true (c.fact 126 (f := (isB "InvalidPolicy" ["DifferentForms"] false)) rfl)
  have is_InvalidPolicy_Impossible : PySem.W.kitAny K (.ref (He.ga K "InvalidPolicy")) [.ref (He.ga K "Impossible")] = some false := of_decide_eq_true (c.fact 127 (f := (isB "InvalidPolicy" ["Impossible"] false)) rfl)
  have is_InvalidPolicy_InvalidBehaviour : PySem.W.kitAny K (.ref (He.ga K "InvalidPolicy")) [.ref (He.ga K "InvalidBehaviour")] = some false := of_decide_eq_true (c.fact 128 (f := (isB "InvalidPolicy" ["InvalidBehaviour"] false)) rfl)
  have is_InvalidPolicy_InvalidPolicy : PySem.W.kitAny K (.ref (He.ga K "InvalidPolicy")) [.ref (He.ga K "InvalidPolicy")] = some true := of_decide_eq_true (c.fact 129 (f := (isB "InvalidPolicy" ["InvalidPolicy"] true)) rfl)
  have is_InvalidPolicy_NoPart : PySem.W.kitAny K (.ref (He.ga K "InvalidPolicy")) [.ref (He.ga K "NoPart")] = some false := of_decide_eq_true (c.fact 130 (f := (isB "InvalidPolicy" ["NoPart"] false)) rfl)
  have is_InvalidPolicy_NothingToUndo : PySem.W.kitAny K (.ref (He.ga K "InvalidPolicy")) [.ref (He.ga K "NothingToUndo")] = some false := of_decide_eq_true (c.fact 131 (f := (isB "InvalidPolicy" ["NothingToUndo"] false)) rfl)
  have is_InvalidPolicy_ParseError : PySem.W.kitAny K (.ref (He.ga K "InvalidPolicy")) [.ref (He.ga K "ParseError")] = some false := of_decide_eq_true (c.fact 132 (f := (isB "InvalidPolicy" ["ParseError"] false)) rfl)
  have is_InvalidPolicy_PolicyError : PySem.W.kitAny K (.ref (He.ga K "InvalidPolicy")) [.ref (He.ga K "PolicyError")] = some true := of_decide_eq_true (c.fact 133 (f := (isB "InvalidPolicy" ["PolicyError"] true)) rfl)
  have is_InvalidPolicy_TooLong : PySem.W.kitAny K (.ref (He.ga K "InvalidPolicy")) [.ref (He.ga K "TooLong")] = some false := of_decide_eq_true (c.fact 134 (f := (isB "InvalidPolicy" ["TooLong"] false)) rfl)
  have is_InvalidPolicy_TooManyEndings : PySem.W.kitAny K (.ref (He.ga K "InvalidPolicy")) [.ref (He.ga K "TooManyEndings")] = some false := of_decide_eq_true (c.fact 135 (f := (isB "InvalidPolicy" ["TooManyEndings"] false)) rfl)
  have is_InvalidPolicy_TooManyKeys : PySem.W.kitAny K (.ref (He.ga K "InvalidPolicy")) [.ref (He.ga K "TooManyKeys")] = some false := of_decide_eq_true (c.fact 136 (f := (isB "InvalidPolicy" ["TooManyKeys"] false)) rfl)
  have is_InvalidPolicy_TooManySpans : PySem.W.kitAny K (.ref (He.ga K "InvalidPolicy")) [.ref (He.ga K "TooManySpans")] = some false := of_decide_eq_true (c.fact 137 (f := (isB "InvalidPolicy" ["TooManySpans"] false)) rfl)
  have is_NoPart_CommandError : PySem.W.kitAny K (.ref (He.ga K "NoPart")) [.ref (He.ga K "CommandError")] = some false := of_decide_eq_true (c.fact 138 (f := (isB "NoPart" ["CommandError"] false)) rfl)
  have is_NoPart_DifferentForms : PySem.W.kitAny K (.ref (He.ga K "NoPart")) [.ref (He.ga K "DifferentForms")] = some false := of_decide_eq_true (c.fact 139 (f := (isB "NoPart" ["DifferentForms"] false)) rfl)
  have is_NoPart_Impossible : PySem.W.kitAny K (.ref (He.ga K "NoPart")) [.ref (He.ga K "Impossible")] = some false := of_decide_eq_true (c.fact 140 (f := (isB "NoPart" ["Impossible"] false)) rfl)
  have is_NoPart_InvalidBehaviour : PySem.W.kitAny K (.ref (He.ga K "NoPart")) [.ref (He.ga K "InvalidBehaviour")] = some false := of_decide_eq_true (c.fact 141 (f := (isB "NoPart" ["InvalidBehaviour"] false)) rfl)
  have is_NoPart_InvalidPolicy : PySem.W.kitAny K (.ref (He.ga K "NoPart")) [.ref (He.ga K "InvalidPolicy")] = some false := of_decide_eq_true (c.fact 142 (f := (isB "NoPart" ["InvalidPolicy"] false)) rfl)
  have is_NoPart_NoPart : PySem.W.kitAny K (.ref (He.ga K "NoPart")) [.ref (He.ga K "NoPart")] = some true := of_decide_eq_true (c.fact 143 (f := (isB "NoPart" ["NoPart"] true)) rfl)
  have is_NoPart_NothingToUndo : PySem.W.kitAny K (.ref (He.ga K "NoPart")) [.ref (He.ga K "NothingToUndo")] = some false := of_decide_eq_true (c.fact 144 (f := (isB "NoPart" ["NothingToUndo"] false)) rfl)
  have is_NoPart_ParseError : PySem.W.kitAny K (.ref (He.ga K "NoPart")) [.ref (He.ga K "ParseError")] = some false := of_decide_eq_true (c.fact 145 (f := (isB "NoPart" ["ParseError"] false)) rfl)
  have is_NoPart_PolicyError : PySem.W.kitAny K (.ref (He.ga K "NoPart")) [.ref (He.ga K "PolicyError")] = some true := of_decide_eq_true (c.fact 146 (f := (isB "NoPart" ["PolicyError"] true)) rfl)
  have is_NoPart_TooLong : PySem.W.kitAny K (.ref (He.ga K "NoPart")) [.ref (He.ga K "TooLong")] = some false := of_decide_eq_true (c.fact 147 (f := (isB "NoPart" ["TooLong"] false)) rfl)
  have is_NoPart_TooManyEndings : PySem.W.kitAny K (.ref (He.ga K "NoPart")) [.ref (He.ga K "TooManyEndings")] = some false := of_decide_eq_true (c.fact 148 (f := (isB "NoPart" ["TooManyEndings"] false)) rfl)
  have is_NoPart_TooManyKeys : PySem.W.kitAny K (.ref (He.ga K "NoPart")) [.ref (He.ga K "TooManyKeys")] = some false := of_decide_eq_true (c.fact 149 (f := (isB "NoPart" ["TooManyKeys"] false)) rfl)
  have is_NoPart_TooManySpans : PySem.W.kitAny K (.ref (He.ga K "NoPart")) [.ref (He.ga K "TooManySpans")] = some false := of_decide_eq_true (c.fact 150 (f := (isB "NoPart" ["TooManySpans"] false)) rfl)
  have is_NothingToUndo_CommandError : PySem.W.kitAny K (.ref (He.ga K "NothingToUndo")) [.ref (He.ga K "CommandError")] = some false := of_decide_eq_true (c.fact 151 (f := (isB "NothingToUndo" ["CommandError"] false)) rfl)
  have is_NothingToUndo_DifferentForms : PySem.W.kitAny K (.ref (He.ga K "NothingToUndo")) [.ref (He.ga K "DifferentForms")] = some false := of_decide_eq_true (c.fact 152 (f := (isB "NothingToUndo" ["DifferentForms"] false)) rfl)
  have is_NothingToUndo_Impossible : PySem.W.kitAny K (.ref (He.ga K "NothingToUndo")) [.ref (He.ga K "Impossible")] = some false := of_decide_eq_true (c.fact 153 (f := (isB "NothingToUndo" ["Impossible"] false)) rfl)
  have is_NothingToUndo_InvalidBehaviour : PySem.W.kitAny K (.ref (He.ga K "NothingToUndo")) [.ref (He.ga K "InvalidBehaviour")] = some false := of_decide_eq_true (c.fact 154 (f := (isB "NothingToUndo" ["InvalidBehaviour"] false)) rfl)
  have is_NothingToUndo_InvalidPolicy : PySem.W.kitAny K (.ref (He.ga K "NothingToUndo")) [.ref (He.ga K "InvalidPolicy")] = some false := of_decide_eq_true (c.fact 155 (f := (isB "NothingToUndo" ["InvalidPolicy"] false)) rfl)
  have is_NothingToUndo_NoPart : PySem.W.kitAny K (.ref (He.ga K "NothingToUndo")) [.ref (He.ga K "NoPart")] = some false := of_decide_eq_true (c.fact 156 (f := (isB "NothingToUndo" ["NoPart"] false)) rfl)
  have is_NothingToUndo_NothingToUndo : PySem.W.kitAny K (.ref (He.ga K "NothingToUndo")) [.ref (He.ga K "NothingToUndo")] = some true := of_decide_eq_true (c.fact 157 (f := (isB "NothingToUndo" ["NothingToUndo"] true)) rfl)
  have is_NothingToUndo_ParseError : PySem.W.kitAny K (.ref (He.ga K "NothingToUndo")) [.ref (He.ga K "ParseError")] = some false := of_decide_eq_true (c.fact 158 (f := (isB "NothingToUndo" ["ParseError"] false)) rfl)
  have is_NothingToUndo_PolicyError : PySem.W.kitAny K (.ref (He.ga K "NothingToUndo")) [.ref (He.ga K "PolicyError")] = some true := of_decide_eq_true (c.fact 159 (f := (isB "NothingToUndo" ["PolicyError"] true)) rfl)
  have is_NothingToUndo_TooLong : PySem.W.kitAny K (.ref (He.ga K "NothingToUndo")) [.ref (He.ga K "TooLong")] = some false := of_decide_eq_true (c.fact 160 (f := (isB "NothingToUndo" ["TooLong"] false)) rfl)
  have is_NothingToUndo_TooManyEndings : PySem.W.kitAny K (.ref (He.ga K "NothingToUndo")) [.ref (He.ga K "TooManyEndings")] = some false := of_decide_eq_true (c.fact 161 (f := (isB "NothingToUndo" ["TooManyEndings"] false)) rfl)
  have is_NothingToUndo_TooManyKeys : PySem.W.kitAny K (.ref (He.ga K "NothingToUndo")) [.ref (He.ga K "TooManyKeys")] = some false := of_decide_eq_true (c.fact 162 (f := (isB "NothingToUndo" ["TooManyKeys"] false)) rfl)
  have is_NothingToUndo_TooManySpans : PySem.W.kitAny K (.ref (He.ga K "NothingToUndo")) [.ref (He.ga K "TooManySpans")] = some false := of_decide_eq_true (c.fact 163 (f := (isB "NothingToUndo" ["TooManySpans"] false)) rfl)
  have is_ParseError_CommandError : PySem.W.kitAny K (.ref (He.ga K "ParseError")) [.ref (He.ga K "CommandError")] = some false := of_decide_eq_true (c.fact 164 (f := (isB "ParseError" ["CommandError"] false)) rfl)
  have is_ParseError_DifferentForms : PySem.W.kitAny K (.ref (He.ga K "ParseError")) [.ref (He.ga K "DifferentForms")] = some false := of_decide_eq_true (c.fact 165 (f := (isB "ParseError" ["DifferentForms"] false)) rfl)
  have is_ParseError_Impossible : PySem.W.kitAny K (.ref (He.ga K "ParseError")) [.ref (He.ga K "Impossible")] = some false := of_decide_eq_true (c.fact 166 (f := (isB "ParseError" ["Impossible"] false)) rfl)
  have is_ParseError_InvalidBehaviour : PySem.W.kitAny K (.ref (He.ga K "ParseError")) [.ref (He.ga K "InvalidBehaviour")] = some false := of_decide_eq_true (c.fact 167 (f := (isB "ParseError" ["InvalidBehaviour"] false)) rfl)
  have is_ParseError_InvalidPolicy : PySem.W.kitAny K (.ref (He.ga K "ParseError")) [.ref (He.ga K "InvalidPolicy")] = some false := of_decide_eq_true (c.fact 168 (f := (isB "ParseError" ["InvalidPolicy"] false)) rfl)
  have is_ParseError_NoPart : PySem.W.kitAny K (.ref (He.ga K "ParseError")) [.ref (He.ga K "NoPart")] = some false := of_decide_eq_true (c.fact 169 (f := (isB "ParseError" ["NoPart"] false)) rfl)
  have is_ParseError_NothingToUndo : PySem.W.kitAny K (.ref (He.ga K "ParseError")) [.ref (He.ga K "NothingToUndo")] = some false := of_decide_eq_true (c.fact 170 (f := (isB "ParseError" ["NothingToUndo"] false)) rfl)
  have is_ParseError_ParseError : PySem.W.kitAny K (.ref (He.ga K "ParseError")) [.ref (He.ga K "ParseError")] = some true := of_decide_eq_true (c.fact 171 (f := (isB "ParseError" ["ParseError"] true)) rfl)
  have is_ParseError_PolicyError : PySem.W.kitAny K (.ref (He.ga K "ParseError")) [.ref (He.ga K "PolicyError")] = some true := of_decide_eq_true (c.fact 172 (f := (isB "ParseError" ["PolicyError"] true)) rfl)
  have is_ParseError_TooLong : PySem.W.kitAny K (.ref (He.ga K "ParseError")) [.ref (He.ga K "TooLong")] = some false := of_decide_eq_true (c.fact 173 (f := (isB "ParseError" ["TooLong"] false)) rfl)
  have is_ParseError_TooManyEndings : PySem.W.kitAny K (.ref (He.ga K "ParseError")) [.ref (He.ga K "TooManyEndings")] = some false := of_decide_eq_true (c.fact 174 (f := (isB "ParseError" ["TooManyEndings"] false)) rfl)
  have is_ParseError_TooManyKeys : PySem.W.kitAny K (.ref (He.ga K "ParseError")) [.ref (He.ga K "TooManyKeys")] = some false := of_decide_eq_true (c.fact 175 (f := (isB "ParseError" ["TooManyKeys"] false)) rfl)
  have is_ParseError_TooManySpans : PySem.W.kitAny K (.ref (He.ga K "ParseError")) [.ref (He.ga K "TooManySpans")] = some false := of_decide_eq_true (c.fact 176 (f := (isB "ParseError" ["TooManySpans"] false)) rfl)
  have is_PolicyError_CommandError : PySem.W.kitAny K (.ref (He.ga K "PolicyError")) [.ref (He.ga K "CommandError")] = some false := of_decide_eq_true (c.fact 177 (f := (isB "PolicyError" ["CommandError"] false)) rfl)
  have is_PolicyError_DifferentForms : PySem.W.kitAny K (.ref (He.ga K "PolicyError")) [.ref (He.ga K "DifferentForms")] = some false := of_decide_eq_true (c.fact 178 (f := (isB "PolicyError" ["DifferentForms"] false)) rfl)
  have is_PolicyError_Impossible : PySem.W.kitAny K (.ref (He.ga K "PolicyError")) [.ref (He.ga K "Impossible")] = some false := of_decide_eq_true (c.fact 179 (f := (isB "PolicyError" ["Impossible"] false)) rfl)
  have is_PolicyError_InvalidBehaviour : PySem.W.kitAny K (.ref (He.ga K "PolicyError")) [.ref (He.ga K "InvalidBehaviour")] = some false := of_decide_eq_true (c.fact 180 (f := (isB "PolicyError" ["InvalidBehaviour"] false)) rfl)
  have is_PolicyError_InvalidPolicy : PySem.W.kitAny K (.ref (He.ga K "PolicyError")) [.ref (He.ga K "InvalidPolicy")] = some false := of_decide_eq_true (c.fact 181 (f := (isB "PolicyError" ["InvalidPolicy"] false)) rfl)
  have is_PolicyError_NoPart : PySem.W.kitAny K (.ref (He.ga K "PolicyError")) [.ref (He.ga K "NoPart")] = some false := of_decide_eq_true (c.fact 182 (f := (isB "PolicyError" ["NoPart"] false)) rfl)
  have is_PolicyError_NothingToUndo : PySem.W.kitAny K (.ref (He.ga K "PolicyError")) [.ref (He.ga K "NothingToUndo")] = some false := of_decide_eq_true (c.fact 183 (f := (isB "PolicyError" ["NothingToUndo"] false)) rfl)
  have is_PolicyError_ParseError : PySem.W.kitAny K (.ref (He.ga K "PolicyError")) [.ref (He.ga K "ParseError")] = some false := of_decide_eq_true (c.fact 184 (f := (isB "PolicyError" ["ParseError"] false)) rfl)
  have is_PolicyError_PolicyError : PySem.W.kitAny K (.ref (He.ga K "PolicyError")) [.ref (He.ga K "PolicyError")] = some true := of_decide_eq_true (c.fact 185 (f := (isB "PolicyError" ["PolicyError"] true)) rfl)
  have is_PolicyError_TooLong : PySem.W.kitAny K (.ref (He.ga K "PolicyError")) [.ref (He.ga K "TooLong")] = some false := of_decide_eq_true (c.fact 186 (f := (isB "PolicyError" ["TooLong"] false)) rfl)
  have is_PolicyError_TooManyEndings : PySem.W.kitAny K (.ref (He.ga K "PolicyError")) [.ref (He.ga K "TooManyEndings")] = some false := of_decide_eq_true (c.fact 187 (f := (isB "PolicyError" ["TooManyEndings"] false)) rfl)
  have is_PolicyError_TooManyKeys : PySem.W.kitAny K (.ref (He.ga K "PolicyError")) [.ref (He.ga K "TooManyKeys")] = some false := of_decide_eq_true (c.fact 188 (f := (isB "PolicyError" ["TooManyKeys"] false)) rfl)
  have is_PolicyError_TooManySpans : PySem.W.kitAny K (.ref (He.ga K "PolicyError")) [.ref (He.ga K "TooManySpans")] = some false := of_decide_eq_true (c.fact 189 (f := (isB "PolicyError" ["TooManySpans"] false)) rfl)
  have is_TooLong_CommandError : PySem.W.kitAny K (.ref (He.ga K "TooLong")) [.ref (He.ga K "CommandError")] = some false := of_decide_eq_true (c.fact 190 (f := (isB "TooLong" ["CommandError"] false)) rfl)
  have is_TooLong_DifferentForms : PySem.W.kitAny K (.ref (He.ga K "TooLong")) [.ref (He.ga K "DifferentForms")] = some false := of_decide_eq_true (c.fact 191 (f := (isB "TooLong" ["DifferentForms"] false)) rfl)
  have is_TooLong_Impossible : PySem.W.kitAny K (.ref (He.ga K "TooLong")) [.ref (He.ga K "Impossible")] = some false := of_decide_eq_true (c.fact 192 (f := (isB "TooLong" ["Impossible"] false)) rfl)
  have is_TooLong_InvalidBehaviour : PySem.W.kitAny K (.ref (He.ga K "TooLong")) [.ref (He.ga K "InvalidBehaviour")] = some false := of_decide_eq_true (c.fact 193 (f := (isB "TooLong" ["InvalidBehaviour"] false)) rfl)
  have is_TooLong_InvalidPolicy : PySem.W.kitAny K (.ref (He.ga K "TooLong")) [.ref (He.ga K "InvalidPolicy")] = some false := of_decide_eq_true (c.fact 194 (f := (isB "TooLong" ["InvalidPolicy"] false)) rfl)
  have is_TooLong_NoPart : PySem.W.kitAny K (.ref (He.ga K "TooLong")) [.ref (He.ga K "NoPart")] = some false := of_decide_eq_true (c.fact 195 (f := (isB "TooLong" ["NoPart"] false)) rfl)
  have is_TooLong_NothingToUndo : PySem.W.kitAny K (.ref (He.ga K "TooLong")) [.ref (He.ga K "NothingToUndo")] = some false := of_decide_eq_true (c.fact 196 (f := (isB "TooLong" ["NothingToUndo"] false)) rfl)
  have is_TooLong_ParseError : PySem.W.kitAny K (.ref (He.ga K "TooLong")) [.ref (He.ga K "ParseError")] = some false := of_decide_eq_true (c.fact 197 (f := (isB "TooLong" ["ParseError"] false)) rfl)
  have is_TooLong_PolicyError : PySem.W.kitAny K (.ref (He.ga K "TooLong")) [.ref (He.ga K "PolicyError")] = some true := of_decide_eq_true (c.fact 198 (f := (isB "TooLong" ["PolicyError"] true)) rfl)
  have is_TooLong_TooLong : PySem.W.kitAny K (.ref (He.ga K "TooLong")) [.ref (He.ga K "TooLong")] = some true := of_decide_eq_true (c.fact 199 (f := (isB "TooLong" ["TooLong"] true)) rfl)
  have is_TooLong_TooManyEndings : PySem.W.kitAny K (.ref (He.ga K "TooLong")) [.ref (He.ga K "TooManyEndings")] = some false := of_decide_eq_true (c.fact 200 (f := (isB "TooLong" ["TooManyEndings"] false)) rfl)
  have is_TooLong_TooManyKeys : PySem.W.kitAny K (.ref (He.ga K "TooLong")) [.ref (He.ga K "TooManyKeys")] = some false := of_decide_eq_true (c.fact 201 (f := (isB "TooLong" ["TooManyKeys"] false)) rfl)
  have is_TooLong_TooManySpans : PySem.W.kitAny K (.ref (He.ga K "TooLong")) [.ref (He.ga K "TooManySpans")] = some false := of_decide_eq_true (c.fact 202 (f := (isB "TooLong" ["TooManySpans"] false)) rfl)
  have is_TooManyEndings_CommandError : PySem.W.kitAny K (.ref (He.ga K "TooManyEndings")) [.ref (He.ga K "CommandError")] = some false := of_decide_eq_true (c.fact 203 (f := (isB "TooManyEndings" ["CommandError"] false)) rfl)
  have is_TooManyEndings_DifferentForms : PySem.W.kitAny K (.ref (He.ga K "TooManyEndings")) [.ref (He.ga K "DifferentForms")] = some false := of_decide_eq_true (c.fact 204 (f := (isB "TooManyEndings" ["DifferentForms"] false)) rfl)
  have is_TooManyEndings_Impossible : PySem.W.kitAny K (.ref (He.ga K "TooManyEndings")) [.ref (He.ga K "Impossible")] = some false := of_decide_eq_true (c.fact 205 (f := (isB "TooManyEndings" ["Impossible"] false)) rfl)
  have is_TooManyEndings_InvalidBehaviour : PySem.W.kitAny K (.ref (He.ga K "TooManyEndings")) [.ref (He.ga K "InvalidBehaviour")] = some false := of_decide_eq_true (c.fact 206 (f := (isB "TooManyEndings" ["InvalidBehaviour"] false)) rfl)
  have is_TooManyEndings_InvalidPolicy : PySem.W.kitAny K (.ref (He.ga K "TooManyEndings")) [.ref (He.ga K "InvalidPolicy")] = some false := of_decide_eq_true (c.fact 207 (f := (isB "TooManyEndings" ["InvalidPolicy"] false)) rfl)
  have is_TooManyEndings_NoPart : PySem.W.kitAny K (.ref (He.ga K "TooManyEndings")) [.ref (He.ga K "NoPart")] = some false := of_decide_eq_true (c.fact 208 (f := (isB "TooManyEndings" ["NoPart"] false)) rfl)
  have is_TooManyEndings_NothingToUndo : PySem.W.kitAny K (.ref (He.ga K "TooManyEndings")) [.ref (He.ga K "NothingToUndo")] = some false := of_decide_eq_true (c.fact 209 (f := (isB "TooManyEndings" ["NothingToUndo"] false)) rfl)
  have is_TooManyEndings_ParseError : PySem.W.kitAny K (.ref (He.ga K "TooManyEndings")) [.ref (He.ga K "ParseError")] = some false := of_decide_eq_true (c.fact 210 (f := (isB "TooManyEndings" ["ParseError"] false)) rfl)
  have is_TooManyEndings_PolicyError : PySem.W.kitAny K (.ref (He.ga K "TooManyEndings")) [.ref (He.ga K "PolicyError")] = some true := of_decide_eq_true (c.fact 211 (f := (isB "TooManyEndings" ["PolicyError"] true)) rfl)
  have is_TooManyEndings_TooLong : PySem.W.kitAny K (.ref (He.ga K "TooManyEndings")) [.ref (He.ga K "TooLong")] = some false := of_decide_eq_true (c.fact 212 (f := (isB "TooManyEndings" ["TooLong"] false)) rfl)
  have is_TooManyEndings_TooManyEndings : PySem.W.kitAny K (.ref (He.ga K "TooManyEndings")) [.ref (He.ga K "TooManyEndings")] = some true := of_decide_eq_true (c.fact 213 (f := (isB "TooManyEndings" ["TooManyEndings"] true)) rfl)
  have is_TooManyEndings_TooManyKeys : PySem.W.kitAny K (.ref (He.ga K "TooManyEndings")) [.ref (He.ga K "TooManyKeys")] = some false := of_decide_eq_true (c.fact 214 (f := (isB "TooManyEndings" ["TooManyKeys"] false)) rfl)
  have is_TooManyEndings_TooManySpans : PySem.W.kitAny K (.ref (He.ga K "TooManyEndings")) [.ref (He.ga K "TooManySpans")] = some false := of_decide_eq_true (c.fact 215 (f := (isB "TooManyEndings" ["TooManySpans"] false)) rfl)
  have is_TooManyKeys_CommandError : PySem.W.kitAny K (.ref (He.ga K "TooManyKeys")) [.ref (He.ga K "CommandError")] = some false := of_decide_eq_true (c.fact 216 (f := (isB "TooManyKeys" ["CommandError"] false)) rfl)
  have is_TooManyKeys_DifferentForms : PySem.W.kitAny K (.ref (He.ga K "TooManyKeys")) [.ref (He.ga K "DifferentForms")] = some false := of_decide_eq_true (c.fact 217 (f := (isB "TooManyKeys" ["DifferentForms"] false)) rfl)
  have is_TooManyKeys_Impossible : PySem.W.kitAny K (.ref (He.ga K "TooManyKeys")) [.ref (He.ga K "Impossible")] = some false := of_decide_eq_true (c.fact 218 (f := (isB "TooManyKeys" ["Impossible"] false)) rfl)
  have is_TooManyKeys_InvalidBehaviour : PySem.W.kitAny K (.ref (He.ga K "TooManyKeys")) [.ref (He.ga K "InvalidBehaviour")] = some false := of_decide_eq_true (c.fact 219 (f := (isB "TooManyKeys" ["InvalidBehaviour"] false)) rfl)
  have is_TooManyKeys_InvalidPolicy : PySem.W.kitAny K (.ref (He.ga K "TooManyKeys")) [.ref (He.ga K "InvalidPolicy")] = some false := of_decide_eq_true (c.fact 220 (f := (isB "TooManyKeys" ["InvalidPolicy"] false)) rfl)
  have is_TooManyKeys_NoPart : PySem.W.kitAny K (.ref (He.ga K "TooManyKeys")) [.ref (He.ga K "NoPart")] = some false := of_decide_eq_true (c.fact 221 (f := (isB "TooManyKeys" ["NoPart"] false)) rfl)
  have is_TooManyKeys_NothingToUndo : PySem.W.kitAny K (.ref (He.ga K "TooManyKeys")) [.ref (He.ga K "NothingToUndo")] = some false := of_decide_eq_true (c.fact 222 (f := (isB "TooManyKeys" ["NothingToUndo"] false)) rfl)
  have is_TooManyKeys_ParseError : PySem.W.kitAny K (.ref (He.ga K "TooManyKeys")) [.ref (He.ga K "ParseError")] = some false := of_decide_eq_true (c.fact 223 (f := (isB "TooManyKeys" ["ParseError"] false)) rfl)
  have is_TooManyKeys_PolicyError : PySem.W.kitAny K (.ref (He.ga K "TooManyKeys")) [.ref (He.ga K "PolicyError")] = some true := of_decide_eq_true (c.fact 224 (f := (isB "TooManyKeys" ["PolicyError"] true)) rfl)
  have is_TooManyKeys_TooLong : PySem.W.kitAny K (.ref (He.ga K "TooManyKeys")) [.ref (He.ga K "TooLong")] = some false := of_decide_eq_true (c.fact 225 (f := (isB "TooManyKeys" ["TooLong"] false)) rfl)
  have is_TooManyKeys_TooManyEndings : PySem.W.kitAny K (.ref (He.ga K "TooManyKeys")) [.ref (He.ga K "TooManyEndings")] = some false := of_decide_eq_true (c.fact 226 (f := (isB "TooManyKeys" ["TooManyEndings"] false)) rfl)
  have is_TooManyKeys_TooManyKeys : PySem.W.kitAny K (.ref (He.ga K "TooManyKeys")) [.ref (He.ga K "TooManyKeys")] = some true := of_decide_eq_true (c.fact 227 (f := (isB "TooManyKeys" ["TooManyKeys"] true)) rfl)
  have is_TooManyKeys_TooManySpans : PySem.W.kitAny K (.ref (He.ga K "TooManyKeys")) [.ref (He.ga K "TooManySpans")] = some false := of_decide_eq_true (c.fact 228 (f := (isB "TooManyKeys" ["TooManySpans"] false)) rfl)
  have is_TooManySpans_CommandError : PySem.W.kitAny K (.ref (He.ga K "TooManySpans")) [.ref (He.ga K "CommandError")] = some false := of_decide_eq_true (c.fact 229 (f := (isB "TooManySpans" ["CommandError"] false)) rfl)
  have is_TooManySpans_DifferentForms : PySem.W.kitAny K (.ref (He.ga K "TooManySpans")) [.ref (He.ga K "DifferentForms")] = some false := of_decide_eq_true (c.fact 230 (f := (isB "TooManySpans" ["DifferentForms"] false)) rfl)
  have is_TooManySpans_Impossible : PySem.W.kitAny K (.ref (He.ga K "TooManySpans")) [.ref (He.ga K "Impossible")] = some false := of_decide_eq_true (c.fact 231 (f := (isB "TooManySpans" ["Impossible"] false)) rfl)
  have is_TooManySpans_InvalidBehaviour : PySem.W.kitAny K (.ref (He.ga K "TooManySpans")) [.ref (He.ga K "InvalidBehaviour")] = some false := of_decide_eq_true (c.fact 232 (f := (isB "TooManySpans" ["InvalidBehaviour"] false)) rfl)
  have is_TooManySpans_InvalidPolicy : PySem.W.kitAny K (.ref (He.ga K "TooManySpans")) [.ref (He.ga K "InvalidPolicy")] = some false := of_decide_eq_true (c.fact 233 (f := (isB "TooManySpans" ["InvalidPolicy"] false)) rfl)
  have is_TooManySpans_NoPart : PySem.W.kitAny K (.ref (He.ga K "TooManySpans")) [.ref (He.ga K "NoPart")] = some false := of_decide_eq_true (c.fact 234 (f := (isB "TooManySpans" ["NoPart"] false)) rfl)
  have is_TooManySpans_NothingToUndo : PySem.W.kitAny K (.ref (He.ga K "TooManySpans")) [.ref (He.ga K "NothingToUndo")] = some false := of_decide_eq_true (c.fact 235 (f := (isB "TooManySpans" ["NothingToUndo"] false)) rfl)
  have is_TooManySpans_ParseError : PySem.W.kitAny K (.ref (He.ga K "TooManySpans")) [.ref (He.ga K "ParseError")] = some false := of_decide_eq_true (c.fact 236 (f := (isB "TooManySpans" ["ParseError"] false)) rfl)
  have is_TooManySpans_PolicyError : PySem.W.kitAny K (.ref (He.ga K "TooManySpans")) [.ref (He.ga K "PolicyError")] = some true := of_decide_eq_true (c.fact 237 (f := (isB "TooManySpans" ["PolicyError"] true)) rfl)
  have is_TooManySpans_TooLong : PySem.W.kitAny K (.ref (He.ga K "TooManySpans")) [.ref (He.ga K "TooLong")] = some false := of_decide_eq_true (c.fact 238 (f := (isB "TooManySpans" ["TooLong"] false)) rfl)
  have is_TooManySpans_TooManyEndings : PySem.W.kitAny K (.ref (He.ga K "TooManySpans")) [.ref (He.ga K "TooManyEndings")] = some false := of_decide_eq_true (c.fact 239 (f := (isB "TooManySpans" ["TooManyEndings"] false)) rfl)
  have is_TooManySpans_TooManyKeys : PySem.W.kitAny K (.ref (He.ga K "TooManySpans")) [.ref (He.ga K "TooManyKeys")] = some false := of_decide_eq_true (c.fact 240 (f := (isB "TooManySpans" ["TooManyKeys"] false)) rfl)
  have is_TooManySpans_TooManySpans : PySem.W.kitAny K (.ref (He.ga K "TooManySpans")) [.ref (He.ga K "TooManySpans")] = some true := of_decide_eq_true (c.fact 241 (f := (isB "TooManySpans" ["TooManySpans"] true)) rfl)
  have noat_CommandError_command : PySem.W.findIn K (.ref (He.ga K "CommandError")) "command" = some none := He.noat_ok (c.fact 242 (f := (fun K => (He.Fa.noat "CommandError" "command").ok K)) rfl)
  have noat_Impossible_value : PySem.W.findIn K (.ref (He.ga K "Impossible")) "value" = some none := He.noat_ok (c.fact 243 (f := (fun K => (He.Fa.noat "Impossible" "value").ok K)) rfl)
  have noat_InvalidBehaviour_value : PySem.W.findIn K (.ref (He.ga K "InvalidBehaviour")) "value" = some none := He.noat_ok (c.fact 244 (f := (fun K => (He.Fa.noat "InvalidBehaviour" "value").ok K)) rfl)
  have noat_InvalidPolicy_value : PySem.W.findIn K (.ref (He.ga K "InvalidPolicy")) "value" = some none := He.noat_ok (c.fact 245 (f := (fun K => (He.Fa.noat "InvalidPolicy" "value").ok K)) rfl)
  have noat_NoPart_value : PySem.W.findIn K (.ref (He.ga K "NoPart")) "value" = some none := He.noat_ok (c.fact 246 (f := (fun K => (He.Fa.noat "NoPart" "value").ok K)) rfl)
  have noat_ParseError_index : PySem.W.findIn K (.ref (He.ga K "ParseError")) "index" = some none := He.noat_ok (c.fact 247 (f := (fun K => (He.Fa.noat "ParseError" "index").ok K)) rfl)
  have noat_TooLong_value : PySem.W.findIn K (.ref (He.ga K "TooLong")) "value" = some none := He.noat_ok (c.fact 248 (f := (fun K => (He.Fa.noat "TooLong" "value").ok K)) rfl)
  have sysK : SysK K := sysB_ok (c.fact 249 (f := sysB) rfl)
  have txt_CommandError : Cfcommand.Txt K (He.ga K "CommandError") (He.ma K (He.ga K "CommandError") "__init__") "CommandError.__init__" := (by obtain ⟨fd, F⟩ := c.def_ 5 (d := di_CommandError) rfl; exact Cfcommand.txt_ok (c.fact 250 (f := (Cfcommand.txtB "CommandError")) rfl) F)
  have txt_Impossible : Cfvalue.Txt K (He.ga K "Impossible") (He.ma K (He.ga K "Impossible") "__init__") "Impossible.__init__" := (by obtain ⟨fd, F⟩ := c.def_ 6 (d := di_Impossible) rfl; exact Cfvalue.txt_ok (c.fact 251 (f := (Cfvalue.txtB "Impossible")) rfl) F)
  have txt_InvalidBehaviour : Cfvalue.Txt K (He.ga K "InvalidBehaviour") (He.ma K (He.ga K "InvalidBehaviour") "__init__") "InvalidBehaviour.__init__" := (by obtain ⟨fd, F⟩ := c.def_ 7 (d := di_InvalidBehaviour) rfl; exact Cfvalue.txt_ok (c.fact 252 (f := (Cfvalue.txtB "InvalidBehaviour")) rfl) F)
  have txt_InvalidPolicy : Cfvalue.Txt K (He.ga K "InvalidPolicy") (He.ma K (He.ga K "InvalidPolicy") "__init__") "InvalidPolicy.__init__" := (by obtain ⟨fd, F⟩ := c.def_ 8 (d := di_InvalidPolicy) rfl; exact Cfvalue.txt_ok (c.fact 253 (f := (Cfvalue.txtB "InvalidPolicy")) rfl) F)
  have txt_NoPart : Cfvalue.Txt K (He.ga K "NoPart") (He.ma K (He.ga K "NoPart") "__init__") "NoPart.__init__" := (by obtain ⟨fd, F⟩ := c.def_ 9 (d := di_NoPart) rfl; exact Cfvalue.txt_ok (c.fact 254 (f := (Cfvalue.txtB "NoPart")) rfl) F)
  have txt_ParseError : Cfindex.Txt K (He.ga K "ParseError") (He.ma K (He.ga K "ParseError") "__init__") "ParseError.__init__" := (by obtain ⟨fd, F⟩ := c.def_ 10 (d := di_ParseError) rfl; exact Cfindex.txt_ok (c.fact 255 (f := (Cfindex.txtB "ParseError")) rfl) F)
  have txt_TooLong : Cfvalue.Txt K (He.ga K "TooLong") (He.ma K (He.ga K "TooLong") "__init__") "TooLong.__init__" := (by obtain ⟨fd, F⟩ := c.def_ 11 (d := di_TooLong) rfl; exact Cfvalue.txt_ok (c.fact 256 (f := (Cfvalue.txtB "TooLong")) rfl) F)
  have D__law_urn : Df K mg "_law_urn" st__law_urn := by obtain ⟨fd, F⟩ := c.def_ 0 (d := d__law_urn) rfl; exact ⟨_, fd, F, He.glo_ok X G (c.fact 0 (f := fun K => (He.Fa.glo "_law_urn").ok K) rfl)⟩
  have D__law_next : Df K mg "_law_next" st__law_next := by obtain ⟨fd, F⟩ := c.def_ 1 (d := d__law_next) rfl; exact ⟨_, fd, F, He.glo_ok X G (c.fact 1 (f := fun K => (He.Fa.glo "_law_next").ok K) rfl)⟩
  have D__law_kinds : Df K mg "_law_kinds" st__law_kinds := by obtain ⟨fd, F⟩ := c.def_ 2 (d := d__law_kinds) rfl; exact ⟨_, fd, F, He.glo_ok X G (c.fact 2 (f := fun K => (He.Fa.glo "_law_kinds").ok K) rfl)⟩
  have D__law_made : Df K mg "_law_made" st__law_made := by obtain ⟨fd, F⟩ := c.def_ 3 (d := d__law_made) rfl; exact ⟨_, fd, F, He.glo_ok X G (c.fact 3 (f := fun K => (He.Fa.glo "_law_made").ok K) rfl)⟩
  obtain ⟨fdL, FL⟩ := c.def_ 4 (d := d_law) rfl
  have e := hfa.symm.trans (He.glo_ok X G (c.fact 4 (f := fun K => (He.Fa.glo "law").ok K) rfl))
  cases e
  refine ⟨fdL, fun s v => FunD.bindsA (ps := ["_law_script"]) FL (fun _ _ _ _ _ _ us hl => match us, hl with | [_], _ => rfl) s [v] rfl, fun base _ _ => ?_⟩
  have G__law_urn := kn__law_urn (P := P) (w := w) (mg := mg) (base := base) D__law_urn m_abs m_int m_len
  have G__law_next := kn__law_next (P := P) (w := w) (mg := mg) (base := base) D__law_next
  have G__law_kinds := kn__law_kinds (P := P) (w := w) (mg := mg) (base := base) D__law_kinds m_isinstance err_CommandError err_DifferentForms err_Impossible err_InvalidBehaviour err_InvalidPolicy err_NoPart err_NothingToUndo err_ParseError err_PolicyError err_TooLong err_TooManyEndings err_TooManyKeys err_TooManySpans g_CommandError g_DifferentForms g_Impossible g_InvalidBehaviour g_InvalidPolicy g_NoPart g_NothingToUndo g_ParseError g_TooLong g_TooManyEndings g_TooManyKeys g_TooManySpans isN_CommandError isN_DifferentForms isN_Impossible isN_InvalidBehaviour isN_InvalidPolicy isN_NoPart isN_NothingToUndo isN_ParseError isN_TooLong isN_TooManyEndings isN_TooManyKeys isN_TooManySpans is_CommandError_CommandError is_CommandError_DifferentForms is_CommandError_Impossible is_CommandError_InvalidBehaviour is_CommandError_InvalidPolicy is_CommandError_NoPart is_CommandError_NothingToUndo is_CommandError_ParseError is_CommandError_TooLong is_CommandError_TooManyEndings is_CommandError_TooManyKeys is_CommandError_TooManySpans is_DifferentForms_CommandError is_DifferentForms_DifferentForms is_DifferentForms_Impossible is_DifferentForms_InvalidBehaviour is_DifferentForms_InvalidPolicy is_DifferentForms_NoPart is_DifferentForms_NothingToUndo is_DifferentForms_ParseError is_DifferentForms_TooLong is_DifferentForms_TooManyEndings is_DifferentForms_TooManyKeys is_DifferentForms_TooManySpans is_Impossible_CommandError is_Impossible_DifferentForms is_Impossible_Impossible is_Impossible_InvalidBehaviour is_Impossible_InvalidPolicy is_Impossible_NoPart is_Impossible_NothingToUndo is_Impossible_ParseError is_Impossible_TooLong is_Impossible_TooManyEndings is_Impossible_TooManyKeys is_Impossible_TooManySpans is_InvalidBehaviour_CommandError is_InvalidBehaviour_DifferentForms is_InvalidBehaviour_Impossible is_InvalidBehaviour_InvalidBehaviour is_InvalidBehaviour_InvalidPolicy is_InvalidBehaviour_NoPart is_InvalidBehaviour_NothingToUndo is_InvalidBehaviour_ParseError is_InvalidBehaviour_TooLong is_InvalidBehaviour_TooManyEndings is_InvalidBehaviour_TooManyKeys is_InvalidBehaviour_TooManySpans is_InvalidPolicy_CommandError is_InvalidPolicy_DifferentForms is_InvalidPolicy_Impossible is_InvalidPolicy_InvalidBehaviour is_InvalidPolicy_InvalidPolicy is_InvalidPolicy_NoPart is_InvalidPolicy_NothingToUndo is_InvalidPolicy_ParseError is_InvalidPolicy_TooLong is_InvalidPolicy_TooManyEndings is_InvalidPolicy_TooManyKeys is_InvalidPolicy_TooManySpans is_NoPart_CommandError is_NoPart_DifferentForms is_NoPart_Impossible is_NoPart_InvalidBehaviour is_NoPart_InvalidPolicy is_NoPart_NoPart is_NoPart_NothingToUndo is_NoPart_ParseError is_NoPart_TooLong is_NoPart_TooManyEndings is_NoPart_TooManyKeys is_NoPart_TooManySpans is_NothingToUndo_CommandError is_NothingToUndo_DifferentForms is_NothingToUndo_Impossible is_NothingToUndo_InvalidBehaviour is_NothingToUndo_InvalidPolicy is_NothingToUndo_NoPart is_NothingToUndo_NothingToUndo is_NothingToUndo_ParseError is_NothingToUndo_TooLong is_NothingToUndo_TooManyEndings is_NothingToUndo_TooManyKeys is_NothingToUndo_TooManySpans is_ParseError_CommandError is_ParseError_DifferentForms is_ParseError_Impossible is_ParseError_InvalidBehaviour is_ParseError_InvalidPolicy is_ParseError_NoPart is_ParseError_NothingToUndo is_ParseError_ParseError is_ParseError_TooLong is_ParseError_TooManyEndings is_ParseError_TooManyKeys is_ParseError_TooManySpans is_PolicyError_CommandError is_PolicyError_DifferentForms is_PolicyError_Impossible is_PolicyError_InvalidBehaviour is_PolicyError_InvalidPolicy is_PolicyError_NoPart is_PolicyError_NothingToUndo is_PolicyError_ParseError is_PolicyError_TooLong is_PolicyError_TooManyEndings is_PolicyError_TooManyKeys is_PolicyError_TooManySpans is_TooLong_CommandError is_TooLong_DifferentForms is_TooLong_Impossible is_TooLong_InvalidBehaviour is_TooLong_InvalidPolicy is_TooLong_NoPart is_TooLong_NothingToUndo is_TooLong_ParseError is_TooLong_TooLong is_TooLong_TooManyEndings is_TooLong_TooManyKeys is_TooLong_TooManySpans is_TooManyEndings_CommandError is_TooManyEndings_DifferentForms is_TooManyEndings_Impossible is_TooManyEndings_InvalidBehaviour is_TooManyEndings_InvalidPolicy is_TooManyEndings_NoPart is_TooManyEndings_NothingToUndo is_TooManyEndings_ParseError is_TooManyEndings_TooLong is_TooManyEndings_TooManyEndings is_TooManyEndings_TooManyKeys is_TooManyEndings_TooManySpans is_TooManyKeys_CommandError is_TooManyKeys_DifferentForms is_TooManyKeys_Impossible is_TooManyKeys_InvalidBehaviour is_TooManyKeys_InvalidPolicy is_TooManyKeys_NoPart is_TooManyKeys_NothingToUndo is_TooManyKeys_ParseError is_TooManyKeys_TooLong is_TooManyKeys_TooManyEndings is_TooManyKeys_TooManyKeys is_TooManyKeys_TooManySpans is_TooManySpans_CommandError is_TooManySpans_DifferentForms is_TooManySpans_Impossible is_TooManySpans_InvalidBehaviour is_TooManySpans_InvalidPolicy is_TooManySpans_NoPart is_TooManySpans_NothingToUndo is_TooManySpans_ParseError is_TooManySpans_TooLong is_TooManySpans_TooManyEndings is_TooManySpans_TooManyKeys is_TooManySpans_TooManySpans
  have G__law_made := kn__law_made (P := P) (w := w) (mg := mg) (base := base) D__law_made err_CommandError err_Impossible err_InvalidBehaviour err_InvalidPolicy err_NoPart err_ParseError err_TooLong exc_DifferentForms exc_NothingToUndo exc_TooManyEndings exc_TooManyKeys exc_TooManySpans g_CommandError g_DifferentForms g_Impossible g_InvalidBehaviour g_InvalidPolicy g_NoPart g_NothingToUndo g_ParseError g_TooLong g_TooManyEndings g_TooManyKeys g_TooManySpans noat_CommandError_command noat_Impossible_value noat_InvalidBehaviour_value noat_InvalidPolicy_value noat_NoPart_value noat_ParseError_index noat_TooLong_value txt_CommandError txt_Impossible txt_InvalidBehaviour txt_InvalidPolicy txt_NoPart txt_ParseError txt_TooLong
  have G_law := fn_law (P := P) (w := w) (mg := mg) (base := base) FL G__law_kinds G__law_made G__law_next G__law_urn m_ValueError m_enumerate m_isinstance m_len m_max m_min m_range m_repr err_CommandError err_DifferentForms err_Impossible err_InvalidBehaviour err_InvalidPolicy err_NoPart err_NothingToUndo err_ParseError err_PolicyError err_TooLong err_TooManyEndings err_TooManyKeys err_TooManySpans exc_PolicyError g_PolicyError isN_PolicyError isV_CommandError isV_DifferentForms isV_Impossible isV_InvalidBehaviour isV_InvalidPolicy isV_NoPart isV_NothingToUndo isV_ParseError isV_PolicyError isV_TooLong isV_TooManyEndings isV_TooManyKeys isV_TooManySpans is_CommandError_PolicyError is_DifferentForms_PolicyError is_Impossible_PolicyError is_InvalidBehaviour_PolicyError is_InvalidPolicy_PolicyError is_NoPart_PolicyError is_NothingToUndo_PolicyError is_ParseError_PolicyError is_PolicyError_PolicyError is_TooLong_PolicyError is_TooManyEndings_PolicyError is_TooManyKeys_PolicyError is_TooManySpans_PolicyError sysK
  exact G_law
end K12
open PySem PySem.W PySem.Calls PyProof.Rows in
theorem K12.holds_of (hsem : ∀ ns : List Int, ns.length ≤ 63 → ∃ st, K12.sem_law [.s ns] [Cp.heapC []] = .ok (.d (.bool true)) st) : PySem.Challenge.rw_callpolicy_k12_errors.Holds := by
  w_on; o_law
  refine HandSHeadRun.head_any (r := OpenLaw.row PySem.Challenge.rw_callpolicy_k12_errors) (q := view (OpenLaw.row PySem.Challenge.rw_callpolicy_k12_errors).prog [19]) (H := K12.hk) (ob := K12.ob) (M := 4000) (loose := K12.loose) (d := HandSHeadRun.topDef (OpenLaw.row PySem.Challenge.rw_callpolicy_k12_errors).prog 19) (kwd := []) K12.ob_eq
    (by kernel_rfl) (fun s => by kernel_rfl) K12.run (by kernel_rfl) (by kernel_rfl) (by kernel_rfl) (by rfl) (by first | assumption | decide +kernel) (by decide +kernel) ⟨rfl, rfl, rfl, rfl, rfl, by decide +kernel⟩ ?hw ?hc
  case hw => w_witness2
  case hc =>
    refine Cp.law_walkE (l := PySem.Challenge.rw_callpolicy_k12_errors) (n := 63) (k := 2) (x := "_law_script") (sem := K12.sem_law) rfl (by decide) (by kernel_rfl) (Cp.law_room (by decide)) ?F hsem
    intro w mg fa h Y G hmg0
    obtain ⟨K, KX, c⟩ := Y
    have hmg : mg ("law" : PySem.Str) = some (.ref fa) := by
      have e : (HandSHeadRun.topDef (OpenLaw.row PySem.Challenge.rw_callpolicy_k12_errors).prog 19).name = ("law" : PySem.Str) := by kernel_rfl
      rw [← e]
      exact hmg0
    obtain ⟨fd, hb, hF⟩ := K12.facts (P := (PySem.Challenge.rw_callpolicy_k12_errors).prog) (w := w) KX G hmg c
    exact ⟨K, fd, KX, hb, hF⟩
/-! L12: the law of the errors. -/
namespace K12
open PySem L2 Cp
theorem eU : sem__law_urn = semU_urn := rfl
theorem eN : sem__law_next = semU_next := rfl
structure It (y : PyData) : Prop where
  r : fRepr y = some (.d (.str y.shown))
  s : SeqAt.shaped (.str y.shown) = true
def kd (i : Nat) : List PyData := (List.range 12).map fun j => .bool (decide (i = j))
variable {E : Er → Sto → Prop} {st : Sto} {P : Rv → Sto → Prop} {N B C : En → Sto → Prop} {R : Rv → Sto → Prop}
theorem seq_cut {E : Er → Sto → Prop} {x y : Sv} {ρ : En} {st : Sto} {N B C : En → Sto → Prop} {R : Rv → Sto → Prop} (I : En → Sto → Prop) (h1 : WSe E (x ρ st) I B C R) (h2 : ∀ ρ s, I ρ s → WSe E (y ρ s) N B C R) : WSe E (sSeq x y ρ st) N B C R := by
  unfold sSeq
  cases q : x ρ st with
  | nx ρ' s => rw [q] at h1; exact h2 _ _ h1
  | bk ρ' s => rw [q] at h1; exact h1
  | ct ρ' s => rw [q] at h1; exact h1
  | rt r s => rw [q] at h1; exact h1
  | er e s => rw [q] at h1; exact h1
  | no => rw [q] at h1; exact h1
theorem szl : sizeLine = 16777216 := rfl
theorem look0 (b0 b1 b2 b3 b4 b5 b6 b7 b8 b9 b10 b11 b12 : Bool) : List.lookup ("InvalidPolicy" : Str) ([("PolicyError", b12), ("InvalidPolicy", b0), ("NoPart", b1), ("InvalidBehaviour", b2), ("Impossible", b3), ("DifferentForms", b7), ("TooManyKeys", b8), ("TooManySpans", b9), ("TooManyEndings", b10), ("TooLong", b4), ("NothingToUndo", b11), ("ParseError", b5), ("CommandError", b6)] : Cat) = some b0 := rfl
theorem w_kinds0 {a : Option (Str × PyData)} (hP : P (.n (.l (kd 0))) st) : WVe noE (sem__law_kinds [.d (erD ("InvalidPolicy" : Str) a)] st) P := by
  unfold sem__law_kinds sb__law_kinds
  rw [W_body]
  refine ⟨rfl, ?_⟩
  simp [erV_d, szl, look0]
  exact hP
theorem look1 (b0 b1 b2 b3 b4 b5 b6 b7 b8 b9 b10 b11 b12 : Bool) : List.lookup ("NoPart" : Str) ([("PolicyError", b12), ("InvalidPolicy", b0), ("NoPart", b1), ("InvalidBehaviour", b2), ("Impossible", b3), ("DifferentForms", b7), ("TooManyKeys", b8), ("TooManySpans", b9), ("TooManyEndings", b10), ("TooLong", b4), ("NothingToUndo", b11), ("ParseError", b5), ("CommandError", b6)] : Cat) = some b1 := rfl
theorem w_kinds1 {a : Option (Str × PyData)} (hP : P (.n (.l (kd 1))) st) : WVe noE (sem__law_kinds [.d (erD ("NoPart" : Str) a)] st) P := by
  unfold sem__law_kinds sb__law_kinds
  rw [W_body]
  refine ⟨rfl, ?_⟩
  simp [erV_d, szl, look1]
  exact hP
theorem look2 (b0 b1 b2 b3 b4 b5 b6 b7 b8 b9 b10 b11 b12 : Bool) : List.lookup ("InvalidBehaviour" : Str) ([("PolicyError", b12), ("InvalidPolicy", b0), ("NoPart", b1), ("InvalidBehaviour", b2), ("Impossible", b3), ("DifferentForms", b7), ("TooManyKeys", b8), ("TooManySpans", b9), ("TooManyEndings", b10), ("TooLong", b4), ("NothingToUndo", b11), ("ParseError", b5), ("CommandError", b6)] : Cat) = some b2 := rfl
theorem w_kinds2 {a : Option (Str × PyData)} (hP : P (.n (.l (kd 2))) st) : WVe noE (sem__law_kinds [.d (erD ("InvalidBehaviour" : Str) a)] st) P := by
  unfold sem__law_kinds sb__law_kinds
  rw [W_body]
  refine ⟨rfl, ?_⟩
  simp [erV_d, szl, look2]
  exact hP
theorem look3 (b0 b1 b2 b3 b4 b5 b6 b7 b8 b9 b10 b11 b12 : Bool) : List.lookup ("Impossible" : Str) ([("PolicyError", b12), ("InvalidPolicy", b0), ("NoPart", b1), ("InvalidBehaviour", b2), ("Impossible", b3), ("DifferentForms", b7), ("TooManyKeys", b8), ("TooManySpans", b9), ("TooManyEndings", b10), ("TooLong", b4), ("NothingToUndo", b11), ("ParseError", b5), ("CommandError", b6)] : Cat) = some b3 := rfl
theorem w_kinds3 {a : Option (Str × PyData)} (hP : P (.n (.l (kd 3))) st) : WVe noE (sem__law_kinds [.d (erD ("Impossible" : Str) a)] st) P := by
  unfold sem__law_kinds sb__law_kinds
  rw [W_body]
  refine ⟨rfl, ?_⟩
  simp [erV_d, szl, look3]
  exact hP
theorem look4 (b0 b1 b2 b3 b4 b5 b6 b7 b8 b9 b10 b11 b12 : Bool) : List.lookup ("TooLong" : Str) ([("PolicyError", b12), ("InvalidPolicy", b0), ("NoPart", b1), ("InvalidBehaviour", b2), ("Impossible", b3), ("DifferentForms", b7), ("TooManyKeys", b8), ("TooManySpans", b9), ("TooManyEndings", b10), ("TooLong", b4), ("NothingToUndo", b11), ("ParseError", b5), ("CommandError", b6)] : Cat) = some b4 := rfl
theorem w_kinds4 {a : Option (Str × PyData)} (hP : P (.n (.l (kd 4))) st) : WVe noE (sem__law_kinds [.d (erD ("TooLong" : Str) a)] st) P := by
  unfold sem__law_kinds sb__law_kinds
  rw [W_body]
  refine ⟨rfl, ?_⟩
  simp [erV_d, szl, look4]
  exact hP
theorem look5 (b0 b1 b2 b3 b4 b5 b6 b7 b8 b9 b10 b11 b12 : Bool) : List.lookup ("ParseError" : Str) ([("PolicyError", b12), ("InvalidPolicy", b0), ("NoPart", b1), ("InvalidBehaviour", b2), ("Impossible", b3), ("DifferentForms", b7), ("TooManyKeys", b8), ("TooManySpans", b9), ("TooManyEndings", b10), ("TooLong", b4), ("NothingToUndo", b11), ("ParseError", b5), ("CommandError", b6)] : Cat) = some b5 := rfl
theorem w_kinds5 {a : Option (Str × PyData)} (hP : P (.n (.l (kd 5))) st) : WVe noE (sem__law_kinds [.d (erD ("ParseError" : Str) a)] st) P := by
  unfold sem__law_kinds sb__law_kinds
  rw [W_body]
  refine ⟨rfl, ?_⟩
  simp [erV_d, szl, look5]
  exact hP
theorem look6 (b0 b1 b2 b3 b4 b5 b6 b7 b8 b9 b10 b11 b12 : Bool) : List.lookup ("CommandError" : Str) ([("PolicyError", b12), ("InvalidPolicy", b0), ("NoPart", b1), ("InvalidBehaviour", b2), ("Impossible", b3), ("DifferentForms", b7), ("TooManyKeys", b8), ("TooManySpans", b9), ("TooManyEndings", b10), ("TooLong", b4), ("NothingToUndo", b11), ("ParseError", b5), ("CommandError", b6)] : Cat) = some b6 := rfl
theorem w_kinds6 {a : Option (Str × PyData)} (hP : P (.n (.l (kd 6))) st) : WVe noE (sem__law_kinds [.d (erD ("CommandError" : Str) a)] st) P := by
  unfold sem__law_kinds sb__law_kinds
  rw [W_body]
  refine ⟨rfl, ?_⟩
  simp [erV_d, szl, look6]
  exact hP
theorem look7 (b0 b1 b2 b3 b4 b5 b6 b7 b8 b9 b10 b11 b12 : Bool) : List.lookup ("DifferentForms" : Str) ([("PolicyError", b12), ("InvalidPolicy", b0), ("NoPart", b1), ("InvalidBehaviour", b2), ("Impossible", b3), ("DifferentForms", b7), ("TooManyKeys", b8), ("TooManySpans", b9), ("TooManyEndings", b10), ("TooLong", b4), ("NothingToUndo", b11), ("ParseError", b5), ("CommandError", b6)] : Cat) = some b7 := rfl
theorem w_kinds7 {a : Option (Str × PyData)} (hP : P (.n (.l (kd 7))) st) : WVe noE (sem__law_kinds [.d (erD ("DifferentForms" : Str) a)] st) P := by
  unfold sem__law_kinds sb__law_kinds
  rw [W_body]
  refine ⟨rfl, ?_⟩
  simp [erV_d, szl, look7]
  exact hP
theorem look8 (b0 b1 b2 b3 b4 b5 b6 b7 b8 b9 b10 b11 b12 : Bool) : List.lookup ("TooManyKeys" : Str) ([("PolicyError", b12), ("InvalidPolicy", b0), ("NoPart", b1), ("InvalidBehaviour", b2), ("Impossible", b3), ("DifferentForms", b7), ("TooManyKeys", b8), ("TooManySpans", b9), ("TooManyEndings", b10), ("TooLong", b4), ("NothingToUndo", b11), ("ParseError", b5), ("CommandError", b6)] : Cat) = some b8 := rfl
theorem w_kinds8 {a : Option (Str × PyData)} (hP : P (.n (.l (kd 8))) st) : WVe noE (sem__law_kinds [.d (erD ("TooManyKeys" : Str) a)] st) P := by
  unfold sem__law_kinds sb__law_kinds
  rw [W_body]
  refine ⟨rfl, ?_⟩
  simp [erV_d, szl, look8]
  exact hP
theorem look9 (b0 b1 b2 b3 b4 b5 b6 b7 b8 b9 b10 b11 b12 : Bool) : List.lookup ("TooManySpans" : Str) ([("PolicyError", b12), ("InvalidPolicy", b0), ("NoPart", b1), ("InvalidBehaviour", b2), ("Impossible", b3), ("DifferentForms", b7), ("TooManyKeys", b8), ("TooManySpans", b9), ("TooManyEndings", b10), ("TooLong", b4), ("NothingToUndo", b11), ("ParseError", b5), ("CommandError", b6)] : Cat) = some b9 := rfl
theorem w_kinds9 {a : Option (Str × PyData)} (hP : P (.n (.l (kd 9))) st) : WVe noE (sem__law_kinds [.d (erD ("TooManySpans" : Str) a)] st) P := by
  unfold sem__law_kinds sb__law_kinds
  rw [W_body]
  refine ⟨rfl, ?_⟩
  simp [erV_d, szl, look9]
  exact hP
theorem look10 (b0 b1 b2 b3 b4 b5 b6 b7 b8 b9 b10 b11 b12 : Bool) : List.lookup ("TooManyEndings" : Str) ([("PolicyError", b12), ("InvalidPolicy", b0), ("NoPart", b1), ("InvalidBehaviour", b2), ("Impossible", b3), ("DifferentForms", b7), ("TooManyKeys", b8), ("TooManySpans", b9), ("TooManyEndings", b10), ("TooLong", b4), ("NothingToUndo", b11), ("ParseError", b5), ("CommandError", b6)] : Cat) = some b10 := rfl
theorem w_kinds10 {a : Option (Str × PyData)} (hP : P (.n (.l (kd 10))) st) : WVe noE (sem__law_kinds [.d (erD ("TooManyEndings" : Str) a)] st) P := by
  unfold sem__law_kinds sb__law_kinds
  rw [W_body]
  refine ⟨rfl, ?_⟩
  simp [erV_d, szl, look10]
  exact hP
theorem look11 (b0 b1 b2 b3 b4 b5 b6 b7 b8 b9 b10 b11 b12 : Bool) : List.lookup ("NothingToUndo" : Str) ([("PolicyError", b12), ("InvalidPolicy", b0), ("NoPart", b1), ("InvalidBehaviour", b2), ("Impossible", b3), ("DifferentForms", b7), ("TooManyKeys", b8), ("TooManySpans", b9), ("TooManyEndings", b10), ("TooLong", b4), ("NothingToUndo", b11), ("ParseError", b5), ("CommandError", b6)] : Cat) = some b11 := rfl
theorem w_kinds11 {a : Option (Str × PyData)} (hP : P (.n (.l (kd 11))) st) : WVe noE (sem__law_kinds [.d (erD ("NothingToUndo" : Str) a)] st) P := by
  unfold sem__law_kinds sb__law_kinds
  rw [W_body]
  refine ⟨rfl, ?_⟩
  simp [erV_d, szl, look11]
  exact hP
theorem look12 (b0 b1 b2 b3 b4 b5 b6 b7 b8 b9 b10 b11 b12 : Bool) : List.lookup ("PolicyError" : Str) ([("PolicyError", b12), ("InvalidPolicy", b0), ("NoPart", b1), ("InvalidBehaviour", b2), ("Impossible", b3), ("DifferentForms", b7), ("TooManyKeys", b8), ("TooManySpans", b9), ("TooManyEndings", b10), ("TooLong", b4), ("NothingToUndo", b11), ("ParseError", b5), ("CommandError", b6)] : Cat) = some b12 := rfl
theorem w_kinds12 {a : Option (Str × PyData)} (hP : P (.n (.l (kd 12))) st) : WVe noE (sem__law_kinds [.d (erD ("PolicyError" : Str) a)] st) P := by
  unfold sem__law_kinds sb__law_kinds
  rw [W_body]
  refine ⟨rfl, ?_⟩
  simp [erV_d, szl, look12]
  exact hP
def madeL (y : PyData) : List PyData := [.tuple [erD "InvalidPolicy" (some ("value", y)), y], .tuple [erD "NoPart" (some ("value", y)), y], .tuple [erD "InvalidBehaviour" (some ("value", y)), y], .tuple [erD "Impossible" (some ("value", y)), y], .tuple [erD "TooLong" (some ("value", y)), y], .tuple [erD "ParseError" (some ("index", y)), y], .tuple [erD "CommandError" (some ("command", y)), y], .tuple [erD "DifferentForms" none, y], .tuple [erD "TooManyKeys" none, y], .tuple [erD "TooManySpans" none, y], .tuple [erD "TooManyEndings" none, y], .tuple [erD "NothingToUndo" none, y]]
theorem w_made {y : PyData} (hP : P (.c st.length) (st ++ [.l (madeL y)])) : WVe noE (sem__law_made [.d y] st) P := by
  unfold sem__law_made sb__law_made
  rw [W_body]
  refine ⟨rfl, ?_⟩
  have hg : ∀ u : Cl, (st ++ [u])[st.length]? = some u := fun u => by rw [List.getElem?_append_right (by simp)]; simp
  have hset : ∀ u v : Cl, (st ++ [u]).set st.length v = st ++ [v] := fun u v => by rw [List.set_append_right _ _ (by simp)]; simp
  have hat : ∀ xs : List PyData, lstAt (st ++ [.l xs]) (.c st.length) = some xs := fun xs => by simp [lstAt, hg]
  simp [erV_d, szl]
  refine forGo_by (I := fun k ρ s => ∃ x2, ρ = [some (.d y), some (.c st.length), x2, none, none] ∧ s = st ++ [.l ((madeL y).take k)]) _ 0 ⟨none, rfl, rfl⟩ (fun _ _ _ _ => trivial) ?_ ?_
  · rintro k d ρ s hd ⟨x2, rfl, rfl⟩
    have hk : k < 5 := (List.getElem?_eq_some_iff.mp hd).1
    rcases (by omega : k = 0 ∨ k = 1 ∨ k = 2 ∨ k = 3 ∨ k = 4) with rfl | rfl | rfl | rfl | rfl <;> (cases hd; rw [W_gNm]; simp [erV_d, szl, hat, hset, madeL])
  rintro ρ s ⟨x2, rfl, rfl⟩
  have hx : ∀ a b c d e f g : PyData, fExt [a, b, c, d, e] (.list [f, g]) = some [a, b, c, d, e, f, g] := fun _ _ _ _ _ _ _ => rfl
  simp [erV_d, szl, hat, hset, madeL, hx]
  refine forGo_by (I := fun k ρ s => ∃ x2 x3 x4, ρ = [some (.d y), some (.c st.length), x2, x3, x4] ∧ s = st ++ [.l ((madeL y).take (7 + k))]) _ 0 ⟨_, _, _, rfl, rfl⟩ (fun _ _ _ _ => trivial) ?_ ?_
  · rintro k d ρ s hd ⟨x2, x3, x4, rfl, rfl⟩
    have hk : k < 5 := (List.getElem?_eq_some_iff.mp hd).1
    rcases (by omega : k = 0 ∨ k = 1 ∨ k = 2 ∨ k = 3 ∨ k = 4) with rfl | rfl | rfl | rfl | rfl <;> (cases hd; rw [W_gNm]; simp [erV_d, szl, hat, hset, madeL])
  rintro ρ s ⟨x2, x3, x4, rfl, rfl⟩
  simp
  exact hP
theorem it_ok {d : PyData} (h : (shw d && SeqAt.shaped (.str d.shown)) = true) : It d := by
  rw [Bool.and_eq_true] at h
  exact ⟨by unfold fRepr; rw [if_pos h.1], h.2⟩
theorem it_int {n : Int} (h0 : 0 ≤ n) (h1 : n < 1000000000) : It (.int n) := by
  have hl : n.natAbs.log2 < 1920 := by
    by_cases hz : n.natAbs = 0
    · rw [hz]; decide
    · exact (Nat.log2_lt hz).mpr (Nat.lt_of_lt_of_le (by omega : n.natAbs < 2 ^ 30) (Nat.pow_le_pow_right (by decide) (by decide)))
  have ok : okS (.int n) := hl
  exact ⟨fRepr_at ok (by unfold siz; rw [szl]; omega) (Nat.zero_le _), shaped_ok (d := .str (PyData.int n).shown) (shown_sgn ok) (Nat.zero_le _)⟩
noncomputable def inB : Sv := (sFor (iEn (aCons (mV (mCall sem__law_made (aCons (mV (mN 3)) aNil))) aNil)) (gTp 2 (gCons9 (gNm 4) (gCons9 (gTp 2 (gCons9 (gNm 5) (gCons9 (gNm 6) gNil9))) gNil9))) (sSeq (sIf (bOr (mCmp gNe (mCall sem__law_kinds (aCons (mV (mN 5)) aNil)) (mLc (iRg1 (aCons (mV (mK (.int 12))) aNil)) (gNm 7) ttY (bV (mCmp gEq (mN 4) (mN 7))) [7])) (mCmp gNe (mCal (g1 fRepr) (aCons (mV (mN 6)) aNil)) (mCal (g1 fRepr) (aCons (mV (mN 3)) aNil)))) (sRet (mK (.bool false))) sNil) (sIf (bOr (bNot (mTru (mIsD [("PolicyError", true), ("InvalidPolicy", true), ("NoPart", true), ("InvalidBehaviour", true), ("Impossible", true), ("DifferentForms", true), ("TooManyKeys", true), ("TooManySpans", true), ("TooManyEndings", true), ("TooLong", true), ("NothingToUndo", true), ("ParseError", true), ("CommandError", true)] (mN 5)))) (bNot (mTru (mIsVD [("PolicyError", true), ("InvalidPolicy", true), ("NoPart", true), ("InvalidBehaviour", true), ("Impossible", true), ("DifferentForms", true), ("TooManyKeys", true), ("TooManySpans", true), ("TooManyEndings", true), ("TooLong", true), ("NothingToUndo", true), ("ParseError", true), ("CommandError", true)] (mN 5))))) (sRet (mK (.bool false))) sNil)))
theorem law_eq : sb_law = (sSeq (sIf (mCmp (gIn false) (mK (.bool true)) (mCall sem__law_kinds (aCons (mV (mErV0 "PolicyError")) aNil))) (sRet (mK (.bool false))) sNil) (sSeq (sFor (iRg1 (aCons (mV (mCal (gII (fun i j => if j > i then j else i)) (aCons (mV (mK (.int 1))) (aCons (mV (mCal (gII (fun i j => if j < i then j else i)) (aCons (mV (mK (.int 3))) (aCons (mV (mCal (gLen) (aCons (mV (mN 0)) aNil))) aNil)))) aNil)))) aNil)) (gNm 1) (sSeq (sAsg (gNm 2) (mVc (mCall sem__law_urn (aCons (mV (mN 0)) (aCons (mV (mN 1)) aNil))))) (sFor (iOf (mLst (aCons (mV (mK .none)) (aCons (mV (mK (.bool true))) (aCons (mV (mCall sem__law_next (aCons (mVc (mN 2)) (aCons (mV (mBin (fI pPow fun i j => i ^ j.toNat) (mK (.int 10)) (mK (.int 9)))) aNil)))) (aCons (mV (mK (.int 0))) (aCons (mV (mK (.str ""))) (aCons (mV (mK (.str "abc"))) (aCons (mV (mTup aNil)) (aCons (mV (mTup (aCons (mV (mK (.int 0))) (aCons (mV (mK (.int 1))) aNil)))) (aCons (mV (mTup (aCons (mV (mK (.str "wait"))) (aCons (mV (mK (.int 3))) aNil)))) (aCons (mV (mLst aNil)) (aCons (mV mD0) aNil))))))))))))) (gNm 3) inB))) (sRet (mK (.bool true))))) := rfl
theorem w_in {y : PyData} (hy : It y) {x0 x1 x2 x4 x5 x6 x7 : Option Vl} (hN : ∀ y4 y5 y6 y7, N [x0, x1, x2, some (.d y), y4, y5, y6, y7] st) : WSe noE (inB [x0, x1, x2, some (.d y), x4, x5, x6, x7] st) N B C R := by
  unfold inB
  simp
  refine w_made ?_
  simp
  have hy1 := hy.r
  have ht : truD (.bool true) = some true := rfl
  have hy2 := gNe_same hy.s
  refine forGo_by (I := fun k ρ s => s = st ∧ ∃ y4 y5 y6 y7, ρ = [x0, x1, x2, some (.d y), y4, y5, y6, y7]) _ 0 ⟨rfl, _, _, _, _, rfl⟩ (fun _ _ _ _ => trivial) ?_ ?_
  · rintro k d ρ s hd ⟨rfl, y4, y5, y6, y7, rfl⟩
    have hk : k < 12 := (List.getElem?_eq_some_iff.mp hd).1
    have hlc : ∀ (i : Nat) {P : List PyData → Sto → Prop} {x3 x5 x6 x7 : Option Vl}, P (kd i) s → WVe noE (lcGo (gNm 7) ttY (bV (mCmp gEq (mN 4) (mN 7))) none (rngD 0 12) [x0, x1, x2, x3, some (.d (.int (i : Int))), x5, x6, x7] (rngD 0 12) s []) P := fun i P x3 x5 x6 x7 hP => by
      refine lc_map (fun d => match d with | .int j => .bool (decide ((i : Int) = j)) | _ => .none) (fun d hd => ?_) (by decide) ?_
      · obtain ⟨j, rfl⟩ : ∃ j : Int, d = .int j := by
          unfold rngD at hd
          obtain ⟨j, _, rfl⟩ := List.mem_map.mp hd
          exact ⟨_, rfl⟩
        rw [W_gNm]
        simp
      · have e : (rngD 0 12).map (fun d => match d with | .int j => PyData.bool (decide ((i : Int) = j)) | _ => .none) = kd i := by
          unfold rngD kd
          rw [List.map_map]
          refine List.map_congr_left fun j _ => ?_
          simp only [Function.comp]
          rw [Int.zero_add]
          congr 1
          exact decide_eq_decide.mpr Int.ofNat_inj
        rw [e]
        exact hP
    rcases (by omega : k = 0 ∨ k = 1 ∨ k = 2 ∨ k = 3 ∨ k = 4 ∨ k = 5 ∨ k = 6 ∨ k = 7 ∨ k = 8 ∨ k = 9 ∨ k = 10 ∨ k = 11) with rfl | rfl | rfl | rfl | rfl | rfl | rfl | rfl | rfl | rfl | rfl | rfl
    · cases hd
      simp
      refine w_kinds0 ?_
      simp
      refine ⟨by decide, hlc 0 ?_⟩
      rw [show gNe (PyData.list (kd 0)) (PyData.list (kd 0)) = some false from rfl]
      simp [hy1, hy2, erV_d, ht, look0]
    · cases hd
      simp
      refine w_kinds1 ?_
      simp
      refine ⟨by decide, hlc 1 ?_⟩
      rw [show gNe (PyData.list (kd 1)) (PyData.list (kd 1)) = some false from rfl]
      simp [hy1, hy2, erV_d, ht, look1]
    · cases hd
      simp
      refine w_kinds2 ?_
      simp
      refine ⟨by decide, hlc 2 ?_⟩
      rw [show gNe (PyData.list (kd 2)) (PyData.list (kd 2)) = some false from rfl]
      simp [hy1, hy2, erV_d, ht, look2]
    · cases hd
      simp
      refine w_kinds3 ?_
      simp
      refine ⟨by decide, hlc 3 ?_⟩
      rw [show gNe (PyData.list (kd 3)) (PyData.list (kd 3)) = some false from rfl]
      simp [hy1, hy2, erV_d, ht, look3]
    · cases hd
      simp
      refine w_kinds4 ?_
      simp
      refine ⟨by decide, hlc 4 ?_⟩
      rw [show gNe (PyData.list (kd 4)) (PyData.list (kd 4)) = some false from rfl]
      simp [hy1, hy2, erV_d, ht, look4]
    · cases hd
      simp
      refine w_kinds5 ?_
      simp
      refine ⟨by decide, hlc 5 ?_⟩
      rw [show gNe (PyData.list (kd 5)) (PyData.list (kd 5)) = some false from rfl]
      simp [hy1, hy2, erV_d, ht, look5]
    · cases hd
      simp
      refine w_kinds6 ?_
      simp
      refine ⟨by decide, hlc 6 ?_⟩
      rw [show gNe (PyData.list (kd 6)) (PyData.list (kd 6)) = some false from rfl]
      simp [hy1, hy2, erV_d, ht, look6]
    · cases hd
      simp
      refine w_kinds7 ?_
      simp
      refine ⟨by decide, hlc 7 ?_⟩
      rw [show gNe (PyData.list (kd 7)) (PyData.list (kd 7)) = some false from rfl]
      simp [hy1, hy2, erV_d, ht, look7]
    · cases hd
      simp
      refine w_kinds8 ?_
      simp
      refine ⟨by decide, hlc 8 ?_⟩
      rw [show gNe (PyData.list (kd 8)) (PyData.list (kd 8)) = some false from rfl]
      simp [hy1, hy2, erV_d, ht, look8]
    · cases hd
      simp
      refine w_kinds9 ?_
      simp
      refine ⟨by decide, hlc 9 ?_⟩
      rw [show gNe (PyData.list (kd 9)) (PyData.list (kd 9)) = some false from rfl]
      simp [hy1, hy2, erV_d, ht, look9]
    · cases hd
      simp
      refine w_kinds10 ?_
      simp
      refine ⟨by decide, hlc 10 ?_⟩
      rw [show gNe (PyData.list (kd 10)) (PyData.list (kd 10)) = some false from rfl]
      simp [hy1, hy2, erV_d, ht, look10]
    · cases hd
      simp
      refine w_kinds11 ?_
      simp
      refine ⟨by decide, hlc 11 ?_⟩
      rw [show gNe (PyData.list (kd 11)) (PyData.list (kd 11)) = some false from rfl]
      simp [hy1, hy2, erV_d, ht, look11]
  · rintro ρ s ⟨rfl, y4, y5, y6, y7, rfl⟩
    exact hN _ _ _ _
def Ilp (ns : List Int) (ρ : En) : Prop := ∃ a b c d e f g, ρ = [some (.s ns), a, b, c, d, e, f, g]
theorem w_law {ns : List Int} (hl : ns.length ≤ 63) : WVe noE (sem_law [.s ns] [heapC []]) fun r _ => r = .d (.bool true) := by
  unfold sem_law
  rw [law_eq, eU, eN, W_body]
  refine ⟨rfl, ?_⟩
  refine seq_cut (fun ρ s => ρ = [some (.s ns), none, none, none, none, none, none, none]) ?_ ?_
  · simp
    refine w_kinds12 ?_
    simp
    rw [show gIn false (PyData.bool true) (PyData.list (kd 12)) = some false from rfl]
    simp
  rintro ρ s rfl
  refine seq_cut (fun ρ s => Ilp ns ρ) ?_ ?_
  · simp
    have hn : ∃ n : Int, (if 1 < if (ns.length : Int) < 3 then (ns.length : Int) else 3 then if (ns.length : Int) < 3 then (ns.length : Int) else 3 else 1) = n ∧ 0 ≤ n ∧ n ≤ 3 := ⟨_, rfl, by split <;> split <;> omega, by split <;> split <;> omega⟩
    obtain ⟨n, e, n0, n3⟩ := hn
    rw [e]
    refine ⟨by simp [rOk, szl]; omega, ?_⟩
    refine forGo_by (I := fun _ ρ _ => Ilp ns ρ) _ 0 ⟨_, _, _, _, _, _, _, rfl⟩ (fun _ _ _ _ => trivial) ?_ fun _ _ h => h
    rintro k d ρ s hd ⟨a, b, c, d', e', f', g', rfl⟩
    obtain ⟨rfl, hkj⟩ := rngD_get hd
    rw [Int.zero_add]
    have hg : ∀ u : Cl, (s ++ [u])[s.length]? = some u := fun u => by rw [List.getElem?_append_right (by simp)]; simp
    have hset : ∀ u v : Cl, (s ++ [u]).set s.length v = s ++ [v] := fun u v => by rw [List.set_append_right _ _ (by simp)]; simp
    rw [W_gNm]
    simp only [List.set]
    refine seq_cut (fun ρ s2 => ∃ u, Urn 7 u ∧ ρ = [some (.s ns), some (.d (.int (k : Int))), some (.c s.length), c, d', e', f', g'] ∧ s2 = s ++ [u]) ?_ ?_
    · simp
      refine w_urn (by omega) (by omega) fun u hU => ?_
      simp
      exact hU.mono (by omega)
    rintro ρ s2 ⟨u, hU, rfl, rfl⟩
    simp [szl]
    refine ⟨by decide, ?_⟩
    refine w_next (n := 1000000000) (hg u) hU (by omega) (by decide) (by decide) fun n u2 n0 n1 hU2 => ?_
    rw [hset]
    simp
    rw [show allD [frz (Rv.n (Cl.m []))] = some [PyData.dict []] from rfl]
    have hI : ∀ d, d ∈ [PyData.none, .bool true, .int n, .int 0, .str (Str.ofString ""), .str (Str.ofString "abc"), .tuple [], .tuple [.int 0, .int 1], .tuple [.str (Str.ofString "wait"), .int 3], .list [], .dict []] → It d := fun d hd => by
      simp only [List.mem_cons, List.not_mem_nil, or_false] at hd
      rcases hd with rfl | rfl | rfl | rfl | rfl | rfl | rfl | rfl | rfl | rfl | rfl
      · exact it_ok (by decide +kernel)
      · exact it_ok (by decide +kernel)
      · exact it_int n0 n1
      all_goals exact it_ok (by decide +kernel)
    simp only [WO_some]
    refine ⟨by decide, ?_⟩
    refine forGo_by (I := fun _ ρ _ => Ilp ns ρ) _ 0 ⟨_, _, _, _, _, _, _, rfl⟩ (fun _ _ _ _ => trivial) ?_ fun _ _ h => h
    rintro k d ρ s hd ⟨a, b, c, d', e', f', g', rfl⟩
    have hy := hI d (List.mem_of_getElem? hd)
    rw [W_gNm]
    exact w_in hy fun _ _ _ _ => ⟨_, _, _, _, _, _, _, rfl⟩
  · rintro ρ s ⟨a, b, c, d', e', f', g', rfl⟩
    simp
theorem sem_true (ns : List Int) (hl : ns.length ≤ 63) : ∃ st, sem_law [.s ns] [heapC []] = .ok (.d (.bool true)) st := by
  obtain ⟨r, s, e, rfl⟩ := WV_ex (w_law hl)
  exact ⟨s, e⟩
end K12
theorem PySem.Challenge.cw_callpolicy_k12_errors_holds : PySem.Challenge.rw_callpolicy_k12_errors.Holds :=
  K12.holds_of K12.sem_true
