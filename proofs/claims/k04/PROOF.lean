import PyProof.Rows.All
import Wide.All
import OpenK.AllK
import Wide.FinOn
import Open.Tops
import HandS.ForMost
import HandS.Exc
import HandS.HeadHook1
import HandS.HeadHook4
import HandS.Lambda
import KE.KDictKeyed
import HandS.TupAny
import HandS.Style
import HandS.Deep
import HandS.Wide
import HandS.TupMul
import HandS.SortRule
import HandS.SortInts
import HandS.Conv
import KE.SortData
import PyProof.RowDictHeap
import PyProof.ReprRoads
import PyProof.CallFns
import HandS.Zip
import HandS.ForExc
import HandS.Defaults
import HandS.HeadHook2
import HandS.HeadEnd
import PyProof.Draws
import PyProof.StrBlock2
import KE.GoesMore
import HandS.Text
import HandS.SetFor
import PyProof.StrLaws
import PyProof.StrLawsRepr
import PyProof.FitsInt
import PyProof.ReprReads
import HandS.IsInst
import HandS.Dict
import HandS.TryOnly
import HandS.ExcOwn
import HandS.ExcInit
import HandS.ExcValue
import HandS.ExcIs
import HandS.ExcField
import KE.KExcIs
import KE.KRevSl
import HandS.HeadHook3
import HandS.More
import PyProof.DictUpdate
import KE.KDictPairs
import HandS.Steps
import KE.KLam
import HandS.Base
import HandS.EndTab
import HandS.Call
import HandS.Strs
import PyProof.SetRoads
import HandS.Head0
import HandS.Head1
import HandS.Head2
import HandS.Ends
import HandS.Words
import HandS.WordsExc
import KE.KStateDown
import KE.KStrOpen
import PyProof.Ascii
import PySem.Challenge.RW_callpolicy_k04_parts_and_numbers_replace
set_option Elab.async false
set_option linter.all false
set_option maxRecDepth 100000
set_option maxHeartbeats 0
namespace K04
open PySem PySem.W PySem.Calls PyProof.Rows
open_shared top04 for (OpenLaw.row PySem.Challenge.rw_callpolicy_k04_parts_and_numbers_replace).prog leaving 4
end K04
/-! Cp0: values by content over the hand layer: data (PyData), cells (lists and dicts that change), what an expression and a statement mean as functions, and how such a meaning is a reading. -/
namespace Cp
open PySem L2
/-- the written part, and the world (texts hash by it) -/
structure Kw where
  K : PySem.W.Frag
  w : World
instance : Coe Kw PySem.W.Frag := ⟨Kw.K⟩
structure Er where
  cls : Str
  arg : Option (Str × PyData)
/-- what a field of an object holds, or an item of its list -/
inductive Fv where
  | d (x : PyData)
  | ob (j : Nat)
/-- a thunk: a lambda without parameters, its code object, its name, the data that its maker's names hold -/
structure Th where
  f : Addr
  c : Addr
  q : Str
  ds : List (Option Fv)
  σ : L2.St
/-- what is neither data nor a cell: an object of the heap cell, a caught error, a def of the text, a dict from texts to such, a thunk -/
inductive Ob where
  | ob (j : Nat)
  | th (t : Th)
  | er (e : Er)
  | fn (x : Str)
  | fns (t : List (Str × Str))
  | tp (ds : List PyData)
/-- what a local name holds: data (never changed), a cell's number, the script, another thing -/
inductive Vl where
  | d (x : PyData)
  | c (i : Nat)
  | s (ns : List Int)
  | o (x : Ob)
/-- what a cell holds -/
inductive Cl where
  | l (xs : List PyData)
  | m (kvs : List (PyData × PyData))
/-- an object that changes: an instance of the class cls, a list -/
inductive Ho where
  | ins (cls : Str) (fs : List (Str × Fv))
  | lst (xs : List Fv)
/-- the places of the cells (that of the heap cell, 0, does not matter), and those of the heap cell's objects -/
structure Mu where
  l : List Addr
  η : List Addr
instance : Membership Addr Mu := ⟨fun μ a => a ∈ μ.l.tail ∨ a ∈ μ.η⟩
abbrev Mu.push (μ : Mu) (a : Addr) : Mu := ⟨μ.l ++ [a], μ.η⟩
abbrev Mu.obj (μ : Mu) (a : Addr) : Mu := ⟨μ.l, μ.η ++ [a]⟩
abbrev Mu.take (μ : Mu) (n : Nat) : Mu := ⟨μ.l.take n, μ.η⟩
theorem Mu.mem_l {μ : Mu} {i : Nat} {a : Addr} (h : μ.l[i]? = some a) (hi : i ≠ 0) : a ∈ μ := by
  refine .inl ?_
  cases i with
  | zero => exact absurd rfl hi
  | succ i => exact List.mem_of_getElem? (i := i) (by rw [List.getElem?_tail]; exact h)
theorem Mu.mem_η {μ : Mu} {j : Nat} {a : Addr} (h : μ.η[j]? = some a) : a ∈ μ := .inr (List.mem_of_getElem? h)
/-- what an expression gives: data, a cell, or a new object that nobody else holds -/
inductive Rv where
  | d (x : PyData)
  | c (i : Nat)
  | s (ns : List Int)
  | n (o : Cl)
  | o (x : Ob)
abbrev Sto := List Cl
def Fv.vl : Fv → Vl
  | .d x => .d x
  | .ob j => .o (.ob j)
inductive Res (α : Type) where
  | ok (a : α) (s : Sto)
  | er (e : Er) (s : Sto)
  | no
abbrev En := List (Option Vl)
abbrev Ev := En → Sto → Res Rv
@[reducible] def Res.bind {α β : Type} (r : Res α) (f : α → Sto → Res β) : Res β :=
  match r with
  | .ok a s => f a s
  | .er e s => .er e s
  | .no => .no
/-! ### data in the abstract heap -/
def kD : Key → PyData
  | .inl i => .int i
  | .inr x => .str x
/-- a dict's object whose keys are tuples, by its entries -/
def dgE (w : World) (x : NestedKey × Addr × Value) : DictEntry := ⟨x.1.hash w, .ref x.2.1, x.2.2⟩
def DgPr (e : NestedKey × Addr × V) (x : NestedKey × Addr × Value) : Prop := e.1 = x.1 ∧ e.2.1 = x.2.1 ∧ RelV e.2.2 x.2.2
def dgO (w : World) (a : Addr) (es : List (NestedKey × Addr × V)) : HO := .ext fun h => es.length ≤ sizeLine ∧ (a == sysModules) = false ∧ ∃ xs o ar ep, Paired DgPr es xs ∧ h.get? a = some o ∧ o.ExactDict ∧ o.data = .dict ar ep ∧ ar.toList = xs.map (dgE w)
mutual
/-- a key: an int, a text, None, a tuple of such -/
def keyN : PyData → Option NestedKey
  | .none => some .none
  | .int i => some (.num i)
  | .str x => some (.text x)
  | .tuple xs => match keysN xs with
    | some ks => some (.tup ks)
    | none => none
  | _ => none
def keysN : List PyData → Option (List NestedKey)
  | [] => some []
  | d :: ds => match keyN d, keysN ds with
    | some k, some ks => some (k :: ks)
    | _, _ => none
end
mutual
inductive Dq (K : Kw) (F : Hp) : V → PyData → Prop
  | non : Dq K F .non .none
  | bl (b : Bool) : Dq K F (.bl b) (.bool b)
  | int (i : Int) : Dq K F (.int i) (.int i)
  | str (x : Str) : Dq K F (.str x) (.str x)
  | lst {a : Addr} {xs : List V} {ds : List PyData} : F a = some (.lst xs) → DqAll K F xs ds → Dq K F (.ref a) (.list ds)
  | tup {a : Addr} {xs : List V} {ds : List PyData} : Rd F a (.tup xs) → DqAll K F xs ds → Dq K F (.ref a) (.tuple ds)
  | dic {a : Addr} {ws : List (Key × V)} {kvs : List (PyData × PyData)} : F a = some (.dK ws) → DqKv K F ws kvs → Dq K F (.ref a) (.dict kvs)
  | dig {a : Addr} {es : List (NestedKey × Addr × V)} {kvs : List (PyData × PyData)} : F a = some (dgO K.w a es) → DqG K F es kvs → (es.map (·.1)).Nodup → es ≠ [] → Dq K F (.ref a) (.dict kvs)
  | ins {a dx : Addr} {x : Str} {fs : List (Str × V)} {kvs : List (PyData × PyData)} : F a = some (.ins (He.ga K x) dx fs) → F dx = some (.own a) → DqF K F fs kvs → Dq K F (.ref a) (.dict ((.list [], .str x) :: kvs))
inductive DqAll (K : Kw) (F : Hp) : List V → List PyData → Prop
  | nil : DqAll K F [] []
  | cons {v : V} {vs : List V} {d : PyData} {ds : List PyData} : Dq K F v d → DqAll K F vs ds → DqAll K F (v :: vs) (d :: ds)
inductive DqKv (K : Kw) (F : Hp) : List (Key × V) → List (PyData × PyData) → Prop
  | nil : DqKv K F [] []
  | cons {k : Key} {v : V} {ws : List (Key × V)} {d : PyData} {kvs : List (PyData × PyData)} : Dq K F v d → DqKv K F ws kvs → DqKv K F ((k, v) :: ws) ((kD k, d) :: kvs)
/-- keys that are tuples -/
inductive DqG (K : Kw) (F : Hp) : List (NestedKey × Addr × V) → List (PyData × PyData) → Prop
  | nil : DqG K F [] []
  | cons {k : NestedKey} {b : Addr} {v : V} {es : List (NestedKey × Addr × V)} {kd d : PyData} {kvs : List (PyData × PyData)} : Dq K F (.ref b) kd → keyN kd = some k → k.depth ≤ 8 → Dq K F v d → DqG K F es kvs → DqG K F ((k, b, v) :: es) ((kd, d) :: kvs)
/-- the fields of an instance -/
inductive DqF (K : Kw) (F : Hp) : List (Str × V) → List (PyData × PyData) → Prop
  | nil : DqF K F [] []
  | cons {x : Str} {v : V} {fs : List (Str × V)} {d : PyData} {kvs : List (PyData × PyData)} : Dq K F v d → DqF K F fs kvs → DqF K F ((x, v) :: fs) ((.str x, d) :: kvs)
end
section
variable {K : Kw} {F F' : Hp}
theorem same_rd {a : Addr} {u : HO} (e : Same F F') (h : Rd F a u) : Rd F' a u := by
  rcases h with h | ⟨o, h⟩
  · exact .inl (e _ _ h)
  · exact .inr ⟨o, e _ _ h⟩
theorem SqT.rd {KK : PySem.W.Frag} {H : Hp} {a : Addr} {xs : List V} (e : Same F H) (h : Rd F a (.tup xs)) : SqT KK H a xs := .inl (same_rd e h)
mutual
theorem Dq.same (e : Same F F') : ∀ {v : V} {d : PyData}, Dq K F v d → Dq K F' v d
  | _, _, .non => .non
  | _, _, .bl b => .bl b
  | _, _, .int i => .int i
  | _, _, .str x => .str x
  | _, _, .lst h r => .lst (e _ _ h) (DqAll.same e r)
  | _, _, .tup h r => .tup (same_rd e h) (DqAll.same e r)
  | _, _, .dic h r => .dic (e _ _ h) (DqKv.same e r)
  | _, _, .dig h r n z => .dig (e _ _ h) (DqG.same e r) n z
  | _, _, .ins h g r => .ins (e _ _ h) (e _ _ g) (DqF.same e r)
theorem DqAll.same (e : Same F F') : ∀ {vs : List V} {ds : List PyData}, DqAll K F vs ds → DqAll K F' vs ds
  | _, _, .nil => .nil
  | _, _, .cons h r => .cons (Dq.same e h) (DqAll.same e r)
theorem DqKv.same (e : Same F F') : ∀ {vs : List (Key × V)} {ds : List (PyData × PyData)}, DqKv K F vs ds → DqKv K F' vs ds
  | _, _, .nil => .nil
  | _, _, .cons h r => .cons (Dq.same e h) (DqKv.same e r)
theorem DqG.same (e : Same F F') : ∀ {vs : List (NestedKey × Addr × V)} {ds : List (PyData × PyData)}, DqG K F vs ds → DqG K F' vs ds
  | _, _, .nil => .nil
  | _, _, .cons h k l g r => .cons (Dq.same e h) k l (Dq.same e g) (DqG.same e r)
theorem DqF.same (e : Same F F') : ∀ {vs : List (Str × V)} {ds : List (PyData × PyData)}, DqF K F vs ds → DqF K F' vs ds
  | _, _, .nil => .nil
  | _, _, .cons h r => .cons (Dq.same e h) (DqF.same e r)
end
theorem DqAll.length : ∀ {vs : List V} {ds : List PyData}, DqAll K F vs ds → vs.length = ds.length
  | _, _, .nil => rfl
  | _, _, .cons _ r => by rw [List.length_cons, List.length_cons, r.length]
theorem DqAll.get : ∀ {vs : List V} {ds : List PyData} {i : Nat} {d : PyData}, DqAll K F vs ds → ds[i]? = some d → ∃ v, vs[i]? = some v ∧ Dq K F v d
  | _, _, _, _, .nil, e => by simp at e
  | _, _, 0, _, .cons h _, e => by simp at e; subst e; exact ⟨_, rfl, h⟩
  | _, _, i + 1, _, .cons _ r, e => by
    obtain ⟨v, h1, h2⟩ := DqAll.get (i := i) r (by simpa using e)
    exact ⟨v, by simpa using h1, h2⟩
theorem DqAll.app : ∀ {vs ws : List V} {ds es : List PyData}, DqAll K F vs ds → DqAll K F ws es → DqAll K F (vs ++ ws) (ds ++ es)
  | _, _, _, _, .nil, h => h
  | _, _, _, _, .cons h r, h' => .cons h (DqAll.app r h')
theorem DqAll.set {x : V} {d : PyData} (hx : Dq K F x d) : ∀ {vs : List V} {ds : List PyData} (i : Nat), DqAll K F vs ds → DqAll K F (vs.set i x) (ds.set i d)
  | _, _, _, .nil => .nil
  | _, _, 0, .cons _ r => .cons hx r
  | _, _, i + 1, .cons h r => .cons h (DqAll.set hx i r)
theorem DqAll.take : ∀ {vs : List V} {ds : List PyData} (n : Nat), DqAll K F vs ds → DqAll K F (vs.take n) (ds.take n)
  | _, _, 0, _ => .nil
  | _, _, _ + 1, .nil => .nil
  | _, _, n + 1, .cons h r => .cons h (DqAll.take n r)
theorem DqAll.drop : ∀ {vs : List V} {ds : List PyData} (n : Nat), DqAll K F vs ds → DqAll K F (vs.drop n) (ds.drop n)
  | _, _, 0, h => h
  | _, _, _ + 1, .nil => .nil
  | _, _, n + 1, .cons _ r => DqAll.drop n r
theorem DqAll.rev : ∀ {vs : List V} {ds : List PyData}, DqAll K F vs ds → DqAll K F vs.reverse ds.reverse
  | _, _, .nil => .nil
  | _, _, .cons h r => by
    rw [List.reverse_cons, List.reverse_cons]
    exact DqAll.app (DqAll.rev r) (.cons h .nil)
end
/-! ### cells, values, environments -/
/-- a dict: its keys ints and texts, or tuples -/
def DcOk (K : Kw) (F : Hp) (a : Addr) (kvs : List (PyData × PyData)) (o : HO) : Prop :=
  (∃ ws, o = .dK ws ∧ DqKv K F ws kvs) ∨ ∃ es, o = dgO K.w a es ∧ DqG K F es kvs ∧ (es.map (·.1)).Nodup ∧ es ≠ []
theorem DcOk.same {K : Kw} {F F' : Hp} {a : Addr} {kvs : List (PyData × PyData)} {o : HO} (e : Same F F') (h : DcOk K F a kvs o) : DcOk K F' a kvs o := by
  rcases h with ⟨ws, h1, h2⟩ | ⟨es, h1, h2, h3, h4⟩
  · exact .inl ⟨ws, h1, h2.same e⟩
  · exact .inr ⟨es, h1, h2.same e, h3, h4⟩
theorem DcOk.dq {K : Kw} {F : Hp} {a : Addr} {kvs : List (PyData × PyData)} {o : HO} (h : DcOk K F a kvs o) (e : F a = some o) : Dq K F (.ref a) (.dict kvs) := by
  rcases h with ⟨ws, h1, h2⟩ | ⟨es, h1, h2, h3, h4⟩
  · subst h1; exact .dic e h2
  · subst h1; exact .dig e h2 h3 h4
def ClOk (K : Kw) (F : Hp) (a : Addr) : Cl → HO → Prop
  | .l ds, o => ∃ xs, o = .lst xs ∧ DqAll K F xs ds
  | .m kvs, o => DcOk K F a kvs o
/-- what stands in the place of a cell that has become data (no dict has such a key) -/
def gone : Cl := .m [(.list [], .none)]
/-- where a def stands: "f", or "C.m" for a method -/
def dfn (x : Str) : Str × Option Str := match x.cps.toList.span (fun c => c != 46) with
  | (_, []) => (x, none)
  | (a, _ :: b) => (⟨a.toArray⟩, some ⟨b.toArray⟩)
/-- the table of code objects of the def x, each of the name q -/
def tabC (x q : Str) : Cl := .m [(.list [], .tuple [.str x, .str q])]
def isGone : Cl → Bool
  | .m ((.list [], .none) :: _) => true
  | .m [(.list [], .tuple _)] => true
  | _ => false
def isDead : Cl → Bool
  | .m ((.list [], .none) :: _) => true
  | _ => false
theorem notDead {c : Cl} (h : isGone c = false) : isDead c = false := by
  unfold isGone at h
  split at h
  · cases h
  · cases h
  · rename_i h1 h2
    unfold isDead
    split
    · exact absurd rfl (h1 _)
    · rfl
def TabW (K : Kw) (F : Hp) (a : Addr) (c : Cl) (o : HO) : Prop := ∀ x q, c = tabC x q → (He.cT K.K (dfn x)).2 = a ∧ ∃ ps : Array Value, o = .tbl ps ∧ TriplesOk ps.toList ∧ ∀ (pos : Pos) (cv : Value), codeAmong pos ps.toList = some cv → ∃ c', cv = .ref c' ∧ F c' = some (LamX.CodeO c' q)
theorem TabW.same {K : Kw} {F F' : Hp} {a : Addr} {c : Cl} {o : HO} (e : Same F F') (h : TabW K F a c o) : TabW K F' a c o := fun x q z => by
  obtain ⟨h1, ps, h2, h3, h4⟩ := h x q z
  refine ⟨h1, ps, h2, h3, fun pos cv hc => ?_⟩
  obtain ⟨c', k1, k2⟩ := h4 pos cv hc
  exact ⟨c', k1, e _ _ k2⟩
def ClW (K : Kw) (F : Hp) (a : Addr) (c : Cl) (o : HO) : Prop := (isGone c = true ∧ TabW K F a c o) ∨ ClOk K F a c o
/-! ### the heap cell: the objects that change -/
def encV : Fv → PyData
  | .d x => .tuple [x]
  | .ob j => .int j
def encF (p : Str × Fv) : PyData := .tuple [.str p.1, encV p.2]
def encO : Ho → PyData
  | .ins cls fs => .tuple [.str cls, .list (fs.map encF)]
  | .lst xs => .list (xs.map encV)
def heapC (objs : List Ho) : Cl := .m [(.list [], .none), (.list (objs.map encO), .none)]
def FvOk (K : Kw) (F : Hp) (η : List Addr) : Fv → V → Prop
  | .d x, v => Dq K F v x
  | .ob j, v => ∃ a, η[j]? = some a ∧ v = .ref a
inductive FvAll (K : Kw) (F : Hp) (η : List Addr) : List Fv → List V → Prop
  | nil : FvAll K F η [] []
  | cons {x : Fv} {v : V} {xs : List Fv} {vs : List V} : FvOk K F η x v → FvAll K F η xs vs → FvAll K F η (x :: xs) (v :: vs)
inductive FlOk (K : Kw) (F : Hp) (η : List Addr) : List (Str × Fv) → List (Str × V) → Prop
  | nil : FlOk K F η [] []
  | cons {f : Str} {x : Fv} {v : V} {xs : List (Str × Fv)} {vs : List (Str × V)} : FvOk K F η x v → FlOk K F η xs vs → FlOk K F η ((f, x) :: xs) ((f, v) :: vs)
def HoOk (K : Kw) (F : Hp) (η : List Addr) (a : Addr) : Ho → HO → Prop
  | .ins cls fs, o => ∃ dx us, o = .ins (He.ga K cls) dx us ∧ F dx = some (.own a) ∧ FlOk K F η fs us
  | .lst xs, o => ∃ us, o = .lst us ∧ FvAll K F η xs us
section
variable {K : Kw} {F F' : Hp} {η : List Addr}
theorem FvOk.later {x : Fv} {v : V} (e : Same F F') (r : List Addr) (h : FvOk K F η x v) : FvOk K F' (η ++ r) x v := by
  cases x with
  | d x => exact Dq.same e h
  | ob j =>
    obtain ⟨a, h1, h2⟩ := h
    exact ⟨a, by rw [List.getElem?_append_left (List.getElem?_eq_some_iff.mp h1).1]; exact h1, h2⟩
theorem FvAll.later (e : Same F F') (r : List Addr) : ∀ {xs : List Fv} {vs : List V}, FvAll K F η xs vs → FvAll K F' (η ++ r) xs vs
  | _, _, .nil => .nil
  | _, _, .cons h t => .cons (h.later e r) (FvAll.later e r t)
theorem FlOk.later (e : Same F F') (r : List Addr) : ∀ {xs : List (Str × Fv)} {vs : List (Str × V)}, FlOk K F η xs vs → FlOk K F' (η ++ r) xs vs
  | _, _, .nil => .nil
  | _, _, .cons h t => .cons (h.later e r) (FlOk.later e r t)
theorem HoOk.later {a : Addr} {x : Ho} {o : HO} (e : Same F F') (r : List Addr) (h : HoOk K F η a x o) : HoOk K F' (η ++ r) a x o := by
  cases x with
  | ins cls fs => obtain ⟨dx, us, h1, h2, h3⟩ := h; exact ⟨dx, us, h1, e _ _ h2, h3.later e r⟩
  | lst xs => obtain ⟨us, h1, h2⟩ := h; exact ⟨us, h1, h2.later e r⟩
theorem HoOk.same {a : Addr} {x : Ho} {o : HO} (e : Same F F') (h : HoOk K F η a x o) : HoOk K F' η a x o := by
  have := h.later e []
  rwa [List.append_nil] at this
end
/-- the dict of an error, by its one field -/
def ErD (K : Kw) (F : Hp) : Option (Str × PyData) → Option Addr → Prop
  | none, dd => dd = none
  | some (f, x), dd => ∃ a v, dd = some a ∧ F a = some (.xd [(f, v)]) ∧ Dq K F v x
def erO (a : Addr) (cls : Value) (dd : Option Addr) : HO := .ext fun h => ∃ oe vs, h.get? a = some oe ∧ Zc cls dd oe ∧ oe.data = .fields vs
def ObOk (K : Kw) (F : Hp) (η : List Addr) : Ob → V → Prop
  | .ob j, v => ∃ a, η[j]? = some a ∧ v = .ref a
  | .th t, v => v = .ref t.f ∧ F t.c = some (LamX.CodeO t.c t.q) ∧ t.ds.length = t.σ.length ∧ ∀ (i : Nat) (d : Fv), t.ds[i]? = some (some d) → ∃ u, t.σ[i]? = some (some u) ∧ FvOk K F η d u
  | .er e, v => ∃ a dd, v = .ref a ∧ F a = some (erO a (.ref (He.ga K e.cls)) dd) ∧ ErD K F e.arg dd
  | .fn x, v => v = .ref (He.ga K x)
  | .fns t, v => ∃ a, v = .ref a ∧ F a = some (.dK (t.map fun p => (.inr p.1, .ref (He.ga K p.2))))
  | .tp ds, v => ∃ a xs o, v = .ref a ∧ F a = some (.frz o (.tup xs)) ∧ o.dict = none ∧ DqAll K F xs ds
theorem ErD.same {K : Kw} {F F' : Hp} (e : Same F F') : ∀ {x : Option (Str × PyData)} {dd : Option Addr}, ErD K F x dd → ErD K F' x dd
  | none, _, h => h
  | some (f, x), _, ⟨a, v, h1, h2, h3⟩ => ⟨a, v, h1, e _ _ h2, Dq.same e h3⟩
theorem ObOk.same {K : Kw} {F F' : Hp} {η : List Addr} (r : List Addr) (e : Same F F') : ∀ {x : Ob} {v : V}, ObOk K F η x v → ObOk K F' (η ++ r) x v
  | .ob _, _, ⟨a, h1, h2⟩ => ⟨a, by rw [List.getElem?_append_left (List.getElem?_eq_some_iff.mp h1).1]; exact h1, h2⟩
  | .th _, _, ⟨h1, h2, h3, h4⟩ => ⟨h1, e _ _ h2, h3, fun i d q => let ⟨u, k1, k2⟩ := h4 i d q; ⟨u, k1, k2.later e r⟩⟩
  | .er _, _, ⟨a, dd, h1, h2, h3⟩ => ⟨a, dd, h1, e _ _ h2, h3.same e⟩
  | .fn _, _, h => h
  | .fns _, _, ⟨a, h1, h2⟩ => ⟨a, h1, e _ _ h2⟩
  | .tp _, _, ⟨a, xs, o, h1, h2, h3, h4⟩ => ⟨a, xs, o, h1, e _ _ h2, h3, DqAll.same e h4⟩
def Vok (K : Kw) (F : Hp) (μ : Mu) : Vl → V → Prop
  | .d x, v => Dq K F v x
  | .c i, v => ∃ a, μ.l[i]? = some a ∧ v = .ref a
  | .s ns, v => ∃ a, v = .ref a ∧ SqL K F a (ns.map V.int)
  | .o x, v => ObOk K F μ.η x v
def Rok (K : Kw) (F : Hp) (μ : Mu) (H : Hp) : Rv → V → Prop
  | .d x, v => Dq K F v x
  | .c i, v => ∃ a, μ.l[i]? = some a ∧ v = .ref a
  | .s ns, v => ∃ a, v = .ref a ∧ SqL K F a (ns.map V.int)
  | .o x, v => ObOk K F μ.η x v
  | .n c, v => ∃ a o, v = .ref a ∧ H a = some o ∧ ClOk K F a c o ∧ F a = none ∧ a ∉ μ
def Eok (K : Kw) (F : Hp) (μ : Mu) (ρ : En) (σ : St) : Prop :=
  ρ.length = σ.length ∧ ∀ (i : Nat) (x : Vl), ρ[i]? = some (some x) → ∃ v, σ[i]? = some (some v) ∧ Vok K F μ x v
structure SR (K : Kw) (μ : Mu) (F H : Hp) (st : Sto) : Prop where
  nd : (μ.l.tail ++ μ.η).Nodup
  len : μ.l.length = st.length
  sep : ∀ (i : Nat) (a : Addr) (c : Cl), μ.l[i]? = some a → st[i]? = some c → isDead c = false → F a = none
  sub : Same F H
  cell0 : ∀ (i : Nat) (c : Cl), i ≠ 0 → st[i]? = some c → ∃ a o, μ.l[i]? = some a ∧ H a = some o ∧ ClW K F a c o
  obs : ∃ objs, st[0]? = some (heapC objs) ∧ objs.length = μ.η.length ∧ ∀ (j : Nat) (x : Ho), objs[j]? = some x → ∃ a o, μ.η[j]? = some a ∧ F a = none ∧ H a = some o ∧ HoOk K F μ.η a x o
/-- from one state to a later one -/
structure Ext (μ : Mu) (F H : Hp) (μ' : Mu) (F' H' : Hp) : Prop where
  same : Same F F'
  pre : ∃ r, μ'.l = μ.l ++ r
  preη : ∃ r, μ'.η = μ.η ++ r
  fr : ∀ b o, H b = some o → b ∉ μ → H' b = some o
  dom : ∀ b, H' b = none → H b = none
  nF : ∀ a o, F' a = some o → F a = some o ∨ H a = none ∨ a ∈ μ
  nC : ∀ a, a ∈ μ' → a ∈ μ ∨ H a = none
section
variable {K : Kw} {μ μ1 μ2 : Mu} {F H F1 H1 F2 H2 : Hp} {st : Sto}
theorem Ext.refl : Ext μ F H μ F H := ⟨Same.refl F, ⟨[], by simp⟩, ⟨[], by simp⟩, fun _ _ h _ => h, fun _ h => h, fun _ _ h => .inl h, fun _ h => .inl h⟩
theorem Ext.trans (a : Ext μ F H μ1 F1 H1) (b : Ext μ1 F1 H1 μ2 F2 H2) : Ext μ F H μ2 F2 H2 := by
  refine ⟨a.same.trans b.same, ?_, ?_, fun c o h n => ?_, fun c h => a.dom c (b.dom c h), fun c o h => ?_, fun c h => ?_⟩
  · obtain ⟨r, e⟩ := a.pre
    obtain ⟨r', e'⟩ := b.pre
    exact ⟨r ++ r', by rw [e', e, List.append_assoc]⟩
  · obtain ⟨r, e⟩ := a.preη
    obtain ⟨r', e'⟩ := b.preη
    exact ⟨r ++ r', by rw [e', e, List.append_assoc]⟩
  · refine b.fr c o (a.fr c o h n) fun z => ?_
    rcases a.nC c z with z | z
    · exact n z
    · rw [z] at h; cases h
  · rcases b.nF c o h with z | z | z
    · exact a.nF c o z
    · exact .inr (.inl (a.dom c z))
    · rcases a.nC c z with z | z
      · exact .inr (.inr z)
      · exact .inr (.inl z)
  · rcases b.nC c h with z | z
    · exact a.nC c z
    · exact .inr (a.dom c z)
theorem Ext.get (a : Ext μ F H μ1 F1 H1) {i : Nat} {x : Addr} (h : μ.l[i]? = some x) : μ1.l[i]? = some x := by
  obtain ⟨r, e⟩ := a.pre
  rw [e, List.getElem?_append_left (List.getElem?_eq_some_iff.mp h).1]
  exact h
theorem ObOk.ext (a : Ext μ F H μ1 F1 H1) {x : Ob} {v : V} (h : ObOk K F μ.η x v) : ObOk K F1 μ1.η x v := by
  obtain ⟨r, e⟩ := a.preη
  rw [e]
  exact ObOk.same r a.same h
theorem FvOk.ext (a : Ext μ F H μ1 F1 H1) {x : Fv} {v : V} (h : FvOk K F μ.η x v) : FvOk K F1 μ1.η x v := by
  obtain ⟨r, e⟩ := a.preη
  rw [e]
  exact h.later a.same r
theorem Vok.ext (a : Ext μ F H μ1 F1 H1) {x : Vl} {v : V} (h : Vok K F μ x v) : Vok K F1 μ1 x v := by
  cases x with
  | d x => exact Dq.same a.same h
  | c i => obtain ⟨p, h1, h2⟩ := h; exact ⟨p, a.get h1, h2⟩
  | s ns => obtain ⟨p, h1, h2⟩ := h; exact ⟨p, h1, a.same.seq h2⟩
  | o x => exact ObOk.ext a h
theorem Eok.ext (a : Ext μ F H μ1 F1 H1) {ρ : En} {σ : St} (h : Eok K F μ ρ σ) : Eok K F1 μ1 ρ σ :=
  ⟨h.1, fun i x e => let ⟨v, h1, h2⟩ := h.2 i x e; ⟨v, h1, h2.ext a⟩⟩
theorem DqAll.ext (a : Ext μ F H μ1 F1 H1) {xs : List V} {ds : List PyData} (h : DqAll K F xs ds) : DqAll K F1 xs ds := h.same a.same
theorem ClOk.same (e : Same F F1) {a : Addr} {c : Cl} {o : HO} (h : ClOk K F a c o) : ClOk K F1 a c o := by
  cases c with
  | l ds => obtain ⟨xs, h1, h2⟩ := h; exact ⟨xs, h1, h2.same e⟩
  | m kvs => exact DcOk.same e h
theorem ClW.same (e : Same F F1) {a : Addr} {c : Cl} {o : HO} (h : ClW K F a c o) : ClW K F1 a c o := h.imp (fun h => ⟨h.1, h.2.same e⟩) fun h => h.same e
theorem SR.pos (s : SR K μ F H st) : 0 < st.length := by
  obtain ⟨objs, h, _⟩ := s.obs
  exact (List.getElem?_eq_some_iff.mp h).1
theorem SR.ne0 (s : SR K μ F H st) {i : Nat} {c : Cl} (h : st[i]? = some c) (hz : isGone c = false) : i ≠ 0 := fun e => by
  subst e
  obtain ⟨objs, h0, _⟩ := s.obs
  rw [h0] at h; cases h
  cases hz
theorem SR.mem (s : SR K μ F H st) {i : Nat} {c : Cl} {a : Addr} (hi : μ.l[i]? = some a) (h : st[i]? = some c) (hz : isGone c = false) : a ∈ μ := Mu.mem_l hi (s.ne0 h hz)
theorem SR.cell (s : SR K μ F H st) (i : Nat) (c : Cl) (h : st[i]? = some c) (hz : isGone c = false := by rfl) : ∃ a o, μ.l[i]? = some a ∧ H a = some o ∧ ClOk K F a c o := by
  obtain ⟨a, o, h1, h2, h3⟩ := s.cell0 i c (s.ne0 h hz) h
  rcases h3 with h3 | h3
  · rw [hz] at h3; cases h3.1
  · exact ⟨a, o, h1, h2, h3⟩
theorem Rok.ext (a : Ext μ F H μ1 F1 H1) {x : Rv} {v : V} (h : Rok K F μ H x v) : Rok K F1 μ1 H1 x v := by
  cases x with
  | d x => exact Dq.same a.same h
  | c i => obtain ⟨p, h1, h2⟩ := h; exact ⟨p, a.get h1, h2⟩
  | s ns => obtain ⟨p, h1, h2⟩ := h; exact ⟨p, h1, a.same.seq h2⟩
  | o x => exact ObOk.ext a h
  | n c =>
    obtain ⟨p, o, h1, h2, h3, h4, h5⟩ := h
    refine ⟨p, o, h1, a.fr p o h2 h5, h3.same a.same, ?_, fun z => ?_⟩
    · cases q : F1 p with
      | none => rfl
      | some u =>
        rcases a.nF p u q with z | z | z
        · rw [h4] at z; cases z
        · rw [h2] at z; cases z
        · exact absurd z h5
    · rcases a.nC p z with z | z
      · exact h5 z
      · rw [h2] at z; cases z
/-- each place has its own object -/
theorem SR.one (s : SR K μ F H st) {i j : Nat} {a : Addr} (hi : μ.l[i]? = some a) (hj : μ.l[j]? = some a) (i0 : i ≠ 0) (j0 : j ≠ 0) : i = j := by
  cases i with
  | zero => exact absurd rfl i0
  | succ i =>
    cases j with
    | zero => exact absurd rfl j0
    | succ j =>
      have nd := (List.nodup_append.mp s.nd).1
      rw [← List.getElem?_tail] at hi hj
      obtain ⟨l1, e1⟩ := List.getElem?_eq_some_iff.mp hi
      obtain ⟨l2, e2⟩ := List.getElem?_eq_some_iff.mp hj
      rw [(List.getElem_inj nd).mp (e1.trans e2.symm)]
theorem SR.apart (s : SR K μ F H st) {i j : Nat} {a b : Addr} (hi : μ.l[i]? = some a) (hj : μ.η[j]? = some b) (i0 : i ≠ 0) : a ≠ b := by
  cases i with
  | zero => exact absurd rfl i0
  | succ i =>
    rw [← List.getElem?_tail] at hi
    exact (List.nodup_append.mp s.nd).2.2 a (List.mem_of_getElem? hi) b (List.mem_of_getElem? hj)
theorem SR.dead (s : SR K μ F H st) {a : Addr} (h : H a = none) : F a = none ∧ a ∉ μ := by
  refine ⟨?_, fun z => ?_⟩
  · cases q : F a with
    | none => rfl
    | some o => rw [s.sub a o q] at h; cases h
  · rcases z with z | z
    · obtain ⟨i, hi, e⟩ := List.getElem_of_mem z
      have hl : i + 1 < st.length := by rw [← s.len]; rw [List.length_tail] at hi; omega
      obtain ⟨b, o, h1, h2, _⟩ := s.cell0 (i + 1) st[i + 1] (by omega) (by simp [hl])
      rw [← List.getElem?_tail, List.getElem?_eq_getElem hi, e] at h1
      cases h1
      rw [h] at h2; cases h2
    · obtain ⟨j, hj, e⟩ := List.getElem_of_mem z
      obtain ⟨objs, _, hl, hall⟩ := s.obs
      have hj' : j < objs.length := by rw [hl]; exact hj
      obtain ⟨b, o, h1, _, h2, _⟩ := hall j objs[j] (by simp [hj'])
      rw [List.getElem?_eq_getElem hj, e] at h1
      cases h1
      rw [h] at h2; cases h2
theorem SR.obs_kept {H' : Hp} (s : SR K μ F H st) (k : ∀ (j : Nat) (a : Addr), μ.η[j]? = some a → ∀ o, H a = some o → H' a = some o) :
    ∃ objs, st[0]? = some (heapC objs) ∧ objs.length = μ.η.length ∧ ∀ (j : Nat) (x : Ho), objs[j]? = some x → ∃ a o, μ.η[j]? = some a ∧ F a = none ∧ H' a = some o ∧ HoOk K F μ.η a x o := by
  obtain ⟨objs, h1, h2, h3⟩ := s.obs
  exact ⟨objs, h1, h2, fun j x e => let ⟨a, o, k1, k2, k3, k4⟩ := h3 j x e; ⟨a, o, k1, k2, k j a k1 o k3, k4⟩⟩
/-- a new object, tracked, held by nobody -/
theorem SR.newly (s : SR K μ F H st) {p : Addr} {o : HO} (hp : H p = none) : SR K μ F (upd H p o) st ∧ Ext μ F H μ F (upd H p o) := by
  have hd := s.dead hp
  have ne : ∀ b u, H b = some u → b ≠ p := fun b u h e => by subst e; rw [hp] at h; cases h
  refine ⟨⟨s.nd, s.len, s.sep, fun b u h => ?_, fun i c i0 h => ?_, s.obs_kept fun j a _ u h => by rw [upd_ne (ne a u h)]; exact h⟩, ⟨Same.refl F, ⟨[], by simp⟩, ⟨[], by simp⟩, fun b u h _ => ?_, fun b h => ?_, fun _ _ h => .inl h, fun _ h => .inl h⟩⟩
  · rw [upd_ne (ne b u (s.sub b u h))]; exact s.sub b u h
  · obtain ⟨a, u, h1, h2, h3⟩ := s.cell0 i c i0 h
    exact ⟨a, u, h1, by rw [upd_ne (ne a u h2)]; exact h2, h3⟩
  · rw [upd_ne (ne b u h)]; exact h
  · by_cases e : b = p
    · subst e; exact hp
    · rw [upd_ne e] at h; exact h
/-- a new object, held by nobody, becomes data -/
theorem SR.freeze {H0 : Hp} (s : SR K μ1 F1 H1 st) (x : Ext μ F H0 μ1 F1 H1) (s0 : Same F H0) {p : Addr} {o : HO} (h0 : H0 p = none) (hp : H1 p = some o) (hF : F1 p = none) (hm : p ∉ μ1) :
    SR K μ1 (upd F1 p o) H1 st ∧ Ext μ F H0 μ1 (upd F1 p o) H1 ∧ Same F1 (upd F1 p o) := by
  have sm : Same F1 (upd F1 p o) := fun b u h => by
    rw [upd_ne (fun e => by subst e; rw [hF] at h; cases h)]; exact h
  refine ⟨⟨s.nd, s.len, fun i a c h h2 h3 => ?_, fun b u h => ?_, fun i c i0 h => ?_, ?_⟩, ⟨x.same.trans sm, x.pre, x.preη, x.fr, x.dom, fun a u h => ?_, x.nC⟩, sm⟩
  · have i0 : i ≠ 0 := fun e => by
      subst e
      obtain ⟨objs, k, _⟩ := s.obs
      rw [k] at h2; cases h2; cases h3
    rw [upd_ne (fun e => by subst e; exact hm (Mu.mem_l h i0))]; exact s.sep i a c h h2 h3
  · by_cases e : b = p
    · subst e; rw [upd_same] at h; cases h; exact hp
    · rw [upd_ne e] at h; exact s.sub b u h
  · obtain ⟨a, u, h1, h2, h3⟩ := s.cell0 i c i0 h
    exact ⟨a, u, h1, h2, h3.same sm⟩
  · obtain ⟨objs, k1, k2, k3⟩ := s.obs
    refine ⟨objs, k1, k2, fun j y e => ?_⟩
    obtain ⟨a, u, q1, q2, q3, q4⟩ := k3 j y e
    exact ⟨a, u, q1, by rw [upd_ne (fun e => by subst e; exact hm (Mu.mem_η q1))]; exact q2, q3, q4.same sm⟩
  · by_cases e : a = p
    · subst e; exact .inr (.inl h0)
    · rw [upd_ne e] at h; exact x.nF a u h
/-- a new object, held by nobody, becomes a cell -/
theorem SR.celled {H0 : Hp} (s : SR K μ1 F1 H1 st) (x : Ext μ F H0 μ1 F1 H1) {p : Addr} {o : HO} {c : Cl} (h0 : H0 p = none) (hp : H1 p = some o) (hF : F1 p = none) (hm : p ∉ μ1) (hc : ClOk K F1 p c o) :
    SR K (μ1.push p) F1 H1 (st ++ [c]) ∧ Ext μ F H0 (μ1.push p) F1 H1 := by
  have hpos := s.pos
  have hne : μ1.l ≠ [] := fun e => by have := s.len; rw [e] at this; simp at this; omega
  have ht : (μ1.l ++ [p]).tail = μ1.l.tail ++ [p] := List.tail_append_of_ne_nil hne
  refine ⟨⟨?_, by simp [s.len], fun i a d h h2 h3 => ?_, s.sub, fun i d i0 h => ?_, ?_⟩, ⟨x.same, ?_, x.preη, x.fr, x.dom, x.nF, fun a h => ?_⟩⟩
  · show ((μ1.l ++ [p]).tail ++ μ1.η).Nodup
    obtain ⟨n1, n2, n3⟩ := List.nodup_append.mp s.nd
    rw [ht, List.nodup_append]
    refine ⟨?_, n2, fun a ha b hb e => ?_⟩
    · rw [List.nodup_append]
      refine ⟨n1, by simp, fun a ha b hb e => ?_⟩
      rw [List.mem_singleton] at hb
      subst hb; subst e
      exact hm (.inl ha)
    · subst e
      rcases List.mem_append.mp ha with ha | ha
      · exact n3 a ha a hb rfl
      · rw [List.mem_singleton.mp ha] at hb; exact hm (.inr hb)
  · have h : (μ1.l ++ [p])[i]? = some a := h
    by_cases hi : i < st.length
    · rw [List.getElem?_append_left (by rw [s.len]; exact hi)] at h
      rw [List.getElem?_append_left hi] at h2
      exact s.sep i a d h h2 h3
    · have e : i = st.length := by
        have := (List.getElem?_eq_some_iff.mp h2).1
        simp at this; omega
      subst e
      rw [← s.len] at h
      simp at h
      subst h
      exact hF
  · show ∃ a o, (μ1.l ++ [p])[i]? = some a ∧ _
    by_cases hi : i < st.length
    · rw [List.getElem?_append_left hi] at h
      obtain ⟨a, u, h1, h2, h3⟩ := s.cell0 i d i0 h
      exact ⟨a, u, by rw [List.getElem?_append_left (by rw [s.len]; exact hi)]; exact h1, h2, h3⟩
    · have e : i = st.length := by
        have := (List.getElem?_eq_some_iff.mp h).1
        simp at this; omega
      subst e
      simp at h
      subst h
      exact ⟨p, o, by rw [← s.len]; simp, hp, .inr hc⟩
  · obtain ⟨objs, k1, k2, k3⟩ := s.obs
    exact ⟨objs, by rw [List.getElem?_append_left hpos]; exact k1, k2, k3⟩
  · obtain ⟨r, e⟩ := x.pre
    exact ⟨r ++ [p], by show μ1.l ++ [p] = _; rw [e, List.append_assoc]⟩
  · rcases h with h | h
    · have h : a ∈ (μ1.l ++ [p]).tail := h
      rw [ht] at h
      rcases List.mem_append.mp h with h | h
      · exact x.nC a (.inl h)
      · rw [List.mem_singleton.mp h]; exact .inr h0
    · exact x.nC a (.inr h)
/-- a cell is written -/
theorem SR.write (s : SR K μ F H st) {i : Nat} {p : Addr} {o : HO} {c : Cl} (hi : μ.l[i]? = some p) (hc : ClOk K F p c o) {c0 : Cl} (h0 : st[i]? = some c0) (hz : isGone c0 = false := by rfl) : SR K μ F (upd H p o) (st.set i c) ∧ Ext μ F H μ F (upd H p o) := by
  have i0 := s.ne0 h0 hz
  have hm : p ∈ μ := s.mem hi h0 hz
  have hil : i < μ.l.length := (List.getElem?_eq_some_iff.mp hi).1
  have hF := s.sep i p c0 hi h0 (notDead hz)
  refine ⟨⟨s.nd, by simp [s.len], fun j a d h h2 h3 => ?_, fun b u h => ?_, fun j d j0 h => ?_, ?_⟩, ⟨Same.refl F, ⟨[], by simp⟩, ⟨[], by simp⟩, fun b u h n => ?_, fun b h => ?_, fun _ _ h => .inl h, fun _ h => .inl h⟩⟩
  · by_cases e : j = i
    · subst e
      rw [hi] at h; cases h
      exact hF
    · rw [List.getElem?_set_ne (Ne.symm e)] at h2
      exact s.sep j a d h h2 h3
  · rw [upd_ne (fun e => by subst e; rw [hF] at h; cases h)]; exact s.sub b u h
  · by_cases e : j = i
    · subst e
      rw [List.getElem?_set_self (by rw [← s.len]; exact hil)] at h
      cases h
      exact ⟨p, o, hi, upd_same, .inr hc⟩
    · rw [List.getElem?_set_ne (Ne.symm e)] at h
      obtain ⟨a, u, h1, h2, h3⟩ := s.cell0 j d j0 h
      refine ⟨a, u, h1, ?_, h3⟩
      rw [upd_ne (fun z => ?_)]; exact h2
      subst z
      exact e (s.one h1 hi j0 i0)
  · obtain ⟨objs, k1, k2, k3⟩ := s.obs
    refine ⟨objs, by rw [List.getElem?_set_ne i0]; exact k1, k2, fun j y e => ?_⟩
    obtain ⟨a, u, q1, q2, q3, q4⟩ := k3 j y e
    exact ⟨a, u, q1, q2, by rw [upd_ne (Ne.symm (s.apart hi q1 i0))]; exact q3, q4⟩
  · rw [upd_ne (fun z => by subst z; exact n hm)]; exact h
  · by_cases e : b = p
    · subst e; rw [upd_same] at h; cases h
    · rw [upd_ne e] at h; exact h
/-- the newest cells are forgotten -/
theorem SR.cut (s : SR K μ1 F1 H1 st) (x : Ext μ F H μ1 F1 H1) (n : Nat) (hn : μ.l.length = n) (hp : 0 < n) : SR K (μ1.take n) F1 H1 (st.take n) ∧ Ext μ F H (μ1.take n) F1 H1 ∧ μ.l = μ1.l.take n := by
  obtain ⟨r, e⟩ := x.pre
  have e2 : μ.l = μ1.l.take n := by rw [e, ← hn]; simp
  have hsub : ∀ a, a ∈ (μ1.l.take n).tail → a ∈ μ1.l.tail := fun a h => by
    obtain ⟨i, hi, q⟩ := List.getElem_of_mem h
    have q2 : (μ1.l.take n).tail[i]? = some a := by rw [List.getElem?_eq_getElem hi, q]
    rw [List.getElem?_tail, List.getElem?_take_of_lt (by rw [List.length_tail, List.length_take] at hi; omega), ← List.getElem?_tail] at q2
    exact List.mem_of_getElem? q2
  have nd : ((μ1.l.take n).tail ++ μ1.η).Nodup := by
    obtain ⟨n1, n2, n3⟩ := List.nodup_append.mp s.nd
    rw [List.nodup_append]
    refine ⟨?_, n2, fun a ha b hb => n3 a (hsub a ha) b hb⟩
    have hs : (μ1.l.take n).tail.Sublist μ1.l.tail := by
      cases μ1.l with
      | nil => simp
      | cons y ys =>
        cases n with
        | zero => omega
        | succ n => exact List.take_sublist n ys
    exact hs.nodup n1
  have hl := s.len
  have hl1 : μ1.l.length = μ.l.length + r.length := by rw [e, List.length_append]
  refine ⟨⟨nd, ?_, fun i a c h h2 h3 => ?_, s.sub, fun i c i0 h => ?_, ?_⟩, ⟨x.same, ⟨[], by rw [List.append_nil]; exact e2.symm⟩, x.preη, x.fr, x.dom, x.nF, fun a h => ?_⟩, e2⟩
  · show (μ1.l.take n).length = _
    rw [List.length_take, List.length_take]; omega
  · have h : (μ1.l.take n)[i]? = some a := h
    have hi : i < n := by
      have := (List.getElem?_eq_some_iff.mp h2).1
      rw [List.length_take] at this
      omega
    rw [List.getElem?_take_of_lt hi] at h2
    rw [List.getElem?_take_of_lt hi] at h
    exact s.sep i a c h h2 h3
  · have hi : i < n := by
      have := (List.getElem?_eq_some_iff.mp h).1
      rw [List.length_take] at this
      omega
    rw [List.getElem?_take_of_lt hi] at h
    obtain ⟨a, u, h1, h2, h3⟩ := s.cell0 i c i0 h
    exact ⟨a, u, by show (μ1.l.take n)[i]? = _; rw [List.getElem?_take_of_lt hi]; exact h1, h2, h3⟩
  · obtain ⟨objs, k1, k2, k3⟩ := s.obs
    exact ⟨objs, by rw [List.getElem?_take_of_lt hp]; exact k1, k2, k3⟩
  · rcases h with h | h
    · exact x.nC a (.inl (hsub a h))
    · exact x.nC a (.inr h)
end
/-! ### what a meaning wants -/
structure Out (K : Kw) (μ : Mu) (F H : Hp) (st : Sto) (r : Rv) (v : V) (μ' : Mu) (F' H' : Hp) : Prop where
  ext : Ext μ F H μ' F' H'
  sr : SR K μ' F' H' st
  rok : Rok K F' μ' H' r v
  new : ∀ c, r = .n c → ∃ a, v = .ref a ∧ H a = none
/-- an error of the program's own as the hand layer tells it -/
def ErOk (K : Kw) (mg : Str → Option Value) (F H : Hp) (e : Er) (cls : Value) (dd : Option Addr) : Prop :=
  cls = .ref (He.ga K e.cls) ∧ ErD K F e.arg dd
/-- how a thing that came may end; what is wished of an error may hang on the slots at its raising -/
structure Cn where
  K : Kw
  mg : Str → Option Value
  W : WX
  σ : St
abbrev Cn.E (C : Cn) : XK := fun cls d H => C.W cls d C.σ H
abbrev Cn.at (C : Cn) (σ : St) : Cn := { C with σ := σ }
abbrev Cn.ofE (K : Kw) (mg : Str → Option Value) (E : XK) : Cn := ⟨K, mg, fun cls d _ H => E cls d H, []⟩
/-- the slots do not matter -/
def Cn.Flat (C : Cn) : Prop := ∀ cls d σ σ' H, C.W cls d σ H → C.W cls d σ' H
def Erw (C : Cn) (μ : Mu) (F H : Hp) (e : Er) (st : Sto) : Prop := ∀ cls dd μ' F' H', Ext μ F H μ' F' H' → SR C.K μ' F' H' st → ErOk C.K C.mg F' H' e cls dd → C.E cls dd H'
def Post {β : Type} (C : Cn) (G : β → Sto → Mu → Hp → Hp → Prop) (μ : Mu) (F H : Hp) : Res β → Prop
  | .ok r st => G r st μ F H
  | .er e st => Erw C μ F H e st
  | .no => False
abbrev gE (C : Cn) (Q : VK) : Rv → Sto → Mu → Hp → Hp → Prop := fun r st μ F H => ∀ v μ' F' H', Out C.K μ F H st r v μ' F' H' → Q v H'
abbrev gV (C : Cn) (Q : VK) : Vl → Sto → Mu → Hp → Hp → Prop := fun r st μ F H => ∀ v μ' F' H', Ext μ F H μ' F' H' → SR C.K μ' F' H' st → Vok C.K F' μ' r v → Q v H'
abbrev gB (C : Cn) (Q : Bool → Hp → Prop) : Bool → Sto → Mu → Hp → Hp → Prop := fun b st μ F H => ∀ μ' F' H', Ext μ F H μ' F' H' → SR C.K μ' F' H' st → Q b H'
abbrev PostE (C : Cn) (Q : VK) := Post C (gE C Q)
abbrev PostV (C : Cn) (Q : VK) := Post C (gV C Q)
abbrev PostB (C : Cn) (Q : Bool → Hp → Prop) := Post C (gB C Q)
inductive VokAll (K : Kw) (F : Hp) (μ : Mu) : List Vl → List V → Prop
  | nil : VokAll K F μ [] []
  | cons {x : Vl} {v : V} {xs : List Vl} {vs : List V} : Vok K F μ x v → VokAll K F μ xs vs → VokAll K F μ (x :: xs) (v :: vs)
abbrev gA (C : Cn) (Q : List V → Hp → Prop) : List Vl → Sto → Mu → Hp → Hp → Prop := fun xs st μ F H => ∀ vs μ' F' H', Ext μ F H μ' F' H' → SR C.K μ' F' H' st → VokAll C.K F' μ' xs vs → Q vs H'
abbrev PostA (C : Cn) (Q : List V → Hp → Prop) := Post C (gA C Q)
def At (C : Cn) (σ : St) (H : Hp) (P : En → Sto → Mu → Hp → Prop) : Prop := ∃ ρ st μ F, Eok C.K F μ ρ σ ∧ SR C.K μ F H st ∧ P ρ st μ F
def tM (C : Cn) (m : Ev) : TE := fun σ H Q => At C σ H fun ρ st μ F => PostE (C.at σ) Q μ F H (m ρ st)
def tV (C : Cn) (m : En → Sto → Res Vl) : TE := fun σ H Q => At C σ H fun ρ st μ F => PostV (C.at σ) Q μ F H (m ρ st)
def tT (C : Cn) (m : En → Sto → Res Bool) : TT := fun σ H Q => At C σ H fun ρ st μ F => PostB (C.at σ) Q μ F H (m ρ st)
def tAs (C : Cn) (m : En → Sto → Res (List Vl)) : TA := fun σ H Q => At C σ H fun ρ st μ F => PostA (C.at σ) Q μ F H (m ρ st)
section
variable {C : Cn} {μ μ1 : Mu} {F H F1 H1 : Hp} {st : Sto}
theorem Erw.later {e : Er} (x : Ext μ F H μ1 F1 H1) (h : Erw C μ F H e st) : Erw C μ1 F1 H1 e st := fun cls dd μ' F' H' y s o => h cls dd μ' F' H' (x.trans y) s o
/-- what holds from a state holds from a later one -/
structure Lat {β : Type} (G : β → Sto → Mu → Hp → Hp → Prop) : Prop where
  it : ∀ {r st μ F H μ1 F1 H1}, Ext μ F H μ1 F1 H1 → G r st μ F H → G r st μ1 F1 H1
theorem gE_lat {Q : VK} : Lat (gE C Q) := ⟨fun x h v μ' F' H' o => h v μ' F' H' ⟨x.trans o.ext, o.sr, o.rok, fun c e => let ⟨a, h1, h2⟩ := o.new c e; ⟨a, h1, x.dom a h2⟩⟩⟩
theorem gB_lat {Q : Bool → Hp → Prop} : Lat (gB C Q) := ⟨fun x h μ' F' H' y s => h μ' F' H' (x.trans y) s⟩
theorem gA_lat {Q : List V → Hp → Prop} : Lat (gA C Q) := ⟨fun x h v μ' F' H' y s o => h v μ' F' H' (x.trans y) s o⟩
theorem Post.later {β : Type} {G : β → Sto → Mu → Hp → Hp → Prop} (g : Lat G) {r : Res β} (x : Ext μ F H μ1 F1 H1) (h : Post C G μ F H r) : Post C G μ1 F1 H1 r := by
  cases r with
  | ok r st => exact g.it x h
  | er e st => exact Erw.later x h
  | no => exact h
/-- one step, then the rest: what came first is data or a cell -/
theorem Post.bindV {β : Type} {G : β → Sto → Mu → Hp → Hp → Prop} (g : Lat G) {m : Res Vl} {k : Vl → Sto → Res β} {Q : VK} (h : Post C G μ F H (m.bind k))
    (hk : ∀ x s v μ1 F1 H1, Ext μ F H μ1 F1 H1 → SR C.K μ1 F1 H1 s → Vok C.K F1 μ1 x v → Post C G μ1 F1 H1 (k x s) → Q v H1) : PostV C Q μ F H m := by
  cases m with
  | ok x s => exact fun v μ1 F1 H1 e s1 o => hk x s v μ1 F1 H1 e s1 o (Post.later g e h)
  | er e s => exact h
  | no => exact h
theorem Post.bindB {β : Type} {G : β → Sto → Mu → Hp → Hp → Prop} (g : Lat G) {m : Res Bool} {k : Bool → Sto → Res β} {Q : Bool → Hp → Prop} (h : Post C G μ F H (m.bind k))
    (hk : ∀ x s μ1 F1 H1, Ext μ F H μ1 F1 H1 → SR C.K μ1 F1 H1 s → Post C G μ1 F1 H1 (k x s) → Q x H1) : PostB C Q μ F H m := by
  cases m with
  | ok x s => exact fun μ1 F1 H1 e s1 => hk x s μ1 F1 H1 e s1 (Post.later g e h)
  | er e s => exact h
  | no => exact h
theorem Post.bindA {β : Type} {G : β → Sto → Mu → Hp → Hp → Prop} (g : Lat G) {m : Res (List Vl)} {k : List Vl → Sto → Res β} {Q : List V → Hp → Prop} (h : Post C G μ F H (m.bind k))
    (hk : ∀ x s v μ1 F1 H1, Ext μ F H μ1 F1 H1 → SR C.K μ1 F1 H1 s → VokAll C.K F1 μ1 x v → Post C G μ1 F1 H1 (k x s) → Q v H1) : PostA C Q μ F H m := by
  cases m with
  | ok x s => exact fun v μ1 F1 H1 e s1 o => hk x s v μ1 F1 H1 e s1 o (Post.later g e h)
  | er e s => exact h
  | no => exact h
theorem VokAll.ext (a : Ext μ F H μ1 F1 H1) : ∀ {xs : List Vl} {vs : List V}, VokAll C.K F μ xs vs → VokAll C.K F1 μ1 xs vs
  | _, _, .nil => .nil
  | _, _, .cons h r => .cons (h.ext a) (VokAll.ext a r)
end
/-! ### data out of what came -/
/-- a new object handed on: data, unless it is to be a cell -/
def frz : Rv → Vl
  | .d x => .d x
  | .c i => .c i
  | .s ns => .s ns
  | .o x => .o x
  | .n (.l xs) => .d (.list xs)
  | .n (.m kvs) => .d (.dict kvs)
def mV (m : Ev) : En → Sto → Res Vl := fun ρ st => (m ρ st).bind fun r s => .ok (frz r) s
/-- .. a cell -/
def mVc (m : Ev) : En → Sto → Res Vl := fun ρ st => (m ρ st).bind fun r s => match r with
  | .n c => .ok (.c s.length) (s ++ [c])
  | r => .ok (frz r) s
section
variable {X : Cx} {C : Cn} {e : Expr} {m : Ev}
theorem _root_.L2.PE.imp {t t' : TE} (h : PE X e t) (w : ∀ σ H Q, t' σ H Q → t σ H Q) : PE X e t' := ⟨fun pins s σ H Q I h' => h.run pins s σ H Q I (w σ H Q h')⟩
theorem frz_out {K : Kw} {μ μ' : Mu} {F H F' H' : Hp} {st st' : Sto} {r : Rv} {v : V} (s : SR K μ F H st) (o : Out K μ F H st' r v μ' F' H') : ∃ F2, Ext μ F H μ' F2 H' ∧ SR K μ' F2 H' st' ∧ Vok K F2 μ' (frz r) v := by
  obtain ⟨ext, sr, rok, new⟩ := o
  cases r with
  | d x => exact ⟨F', ext, sr, rok⟩
  | c i => exact ⟨F', ext, sr, rok⟩
  | s ns => exact ⟨F', ext, sr, rok⟩
  | o x => exact ⟨F', ext, sr, rok⟩
  | n c =>
    obtain ⟨a, o, rfl, h2, h3, h4, h5⟩ := rok
    obtain ⟨a', e1, h0⟩ := new c rfl
    cases e1
    obtain ⟨s2, x2, sm⟩ := sr.freeze ext s.sub h0 h2 h4 h5
    refine ⟨_, x2, s2, ?_⟩
    cases c with
    | l ds =>
      obtain ⟨xs, rfl, q⟩ := h3
      exact .lst upd_same (q.same sm)
    | m kvs =>
      exact (DcOk.same sm h3).dq upd_same
theorem pv_frz (h : PE X e (tM C m)) : PE X e (tV C (mV m)) := h.imp fun σ H Q ⟨ρ, st, μ, F, h1, h2, h3⟩ => ⟨ρ, st, μ, F, h1, h2, by
  show PostE (C.at σ) Q μ F H (m ρ st)
  cases e : m ρ st with
  | ok r st' =>
    simp only [mV, e] at h3
    intro v μ' F' H' o
    obtain ⟨F2, x2, s2, k⟩ := frz_out h2 o
    exact h3 v μ' F2 H' x2 s2 k
  | er e2 st' => simp only [mV, e] at h3; exact h3
  | no => simp only [mV, e] at h3; exact h3⟩
theorem pv_cell (h : PE X e (tM C m)) : PE X e (tV C (mVc m)) := h.imp fun σ H Q ⟨ρ, st, μ, F, h1, h2, h3⟩ => ⟨ρ, st, μ, F, h1, h2, by
  show PostE (C.at σ) Q μ F H (m ρ st)
  cases e : m ρ st with
  | ok r st' =>
    simp only [mVc, e] at h3
    intro v μ' F' H' o
    cases r with
    | d x => exact h3 v μ' F' H' o.ext o.sr o.rok
    | c x => exact h3 v μ' F' H' o.ext o.sr o.rok
    | s x => exact h3 v μ' F' H' o.ext o.sr o.rok
    | o x => exact h3 v μ' F' H' o.ext o.sr o.rok
    | n c =>
      obtain ⟨ext, sr, ⟨a, o, rfl, g2, g3, g4, g5⟩, new⟩ := o
      obtain ⟨a', e1, h0⟩ := new c rfl
      cases e1
      obtain ⟨s2, x2⟩ := sr.celled ext h0 g2 g4 g5 g3
      exact h3 _ _ _ _ x2 s2 ⟨a, by rw [← sr.len]; simp, rfl⟩
  | er e2 st' => simp only [mVc, e] at h3; exact h3
  | no => simp only [mVc, e] at h3; exact h3⟩
end
/-- .. a cell that nobody will write again becomes data -/
def mVz (m : Ev) : En → Sto → Res Vl := fun ρ st => (m ρ st).bind fun r s => match r with
  | .c k => match s[k]? with
    | some (.l xs) => .ok (.d (.list xs)) (s.set k gone)
    | _ => .no
  | r => .ok (frz r) s
/-! ### the objects of the heap cell -/
def decV : PyData → Fv
  | .tuple [x] => .d x
  | .int j => .ob j.toNat
  | _ => .d .none
def decF : PyData → Str × Fv
  | .tuple [.str p, v] => (p, decV v)
  | _ => ("", .d .none)
def decO : PyData → Ho
  | .tuple [.str cls, .list fs] => .ins cls (fs.map decF)
  | .list xs => .lst (xs.map decV)
  | _ => .lst []
theorem dec_map {α β : Type} {f : α → β} {g : β → α} (h : ∀ x, g (f x) = x) : ∀ xs : List α, (xs.map f).map g = xs
  | [] => rfl
  | x :: xs => by rw [List.map_cons, List.map_cons, h, dec_map h xs]
theorem dec_encV : ∀ x, decV (encV x) = x
  | .d _ => rfl
  | .ob _ => rfl
theorem dec_encF : ∀ x, decF (encF x) = x := fun ⟨p, v⟩ => by
  show (p, decV (encV v)) = _
  rw [dec_encV]
theorem dec_encO : ∀ x, decO (encO x) = x
  | .ins cls fs => by
    show Ho.ins cls ((fs.map encF).map decF) = _
    rw [dec_map dec_encF]
  | .lst xs => by
    show Ho.lst ((xs.map encV).map decV) = _
    rw [dec_map dec_encV]
def objsC : Cl → List Ho
  | .m [_, (.list os, _)] => os.map decO
  | _ => []
def objsOf (st : Sto) : List Ho := match st[0]? with
  | some c => objsC c
  | none => []
@[simp] theorem objsC_heap (objs : List Ho) : objsC (heapC objs) = objs := dec_map dec_encO objs
theorem objsOf_eq {st : Sto} {objs : List Ho} (h : st[0]? = some (heapC objs)) : objsOf st = objs := by
  unfold objsOf
  rw [h]
  exact objsC_heap objs
def fvsD : List Fv → Option (List PyData)
  | [] => some []
  | .d x :: r => (fvsD r).map (x :: ·)
  | .ob _ :: _ => none
theorem fvsD_ok {K : Kw} {F : Hp} {η : List Addr} : ∀ {xs : List Fv} {vs : List V} {ds : List PyData}, FvAll K F η xs vs → fvsD xs = some ds → DqAll K F vs ds
  | _, _, _, .nil, e => by cases e; exact .nil
  | .d x :: xs, _, _, .cons h r, e => by
    unfold fvsD at e
    cases q : fvsD xs with
    | none => rw [q] at e; cases e
    | some ds => rw [q] at e; cases e; exact .cons h (fvsD_ok r q)
  | .ob j :: xs, _, _, .cons h r, e => by unfold fvsD at e; cases e
/-- an object, by its number -/
theorem SR.obj {K : Kw} {μ : Mu} {F H : Hp} {st : Sto} (s : SR K μ F H st) {j : Nat} {x : Ho} (h : (objsOf st)[j]? = some x) : ∃ objs a o, st[0]? = some (heapC objs) ∧ objsOf st = objs ∧ objs[j]? = some x ∧ μ.η[j]? = some a ∧ F a = none ∧ H a = some o ∧ HoOk K F μ.η a x o := by
  obtain ⟨objs, k1, k2, k3⟩ := s.obs
  have e := objsOf_eq k1
  rw [e] at h
  obtain ⟨a, o, q1, q2, q3, q4⟩ := k3 j x h
  exact ⟨objs, a, o, k1, e, h, q1, q2, q3, q4⟩
/-! ### what stands at a value, as data: a cell by its content now -/
def viewO (st : Sto) (j : Nat) : Option PyData := match (objsOf st)[j]? with
  | some (.lst xs) => (fvsD xs).map .list
  | _ => none
def view (st : Sto) : Vl → Option PyData
  | .d x => some x
  | .c i => match st[i]? with
    | some (.l xs) => some (.list xs)
    | some (.m kvs) => if isGone (.m kvs) then none else some (.dict kvs)
    | none => none
  | .s _ => none
  | .o (.ob j) => viewO st j
  | .o (.tp ds) => some (.tuple ds)
  | .o _ => none
/-- the thing itself in the heap, its items among the data -/
def Vw (K : Kw) (F H : Hp) : V → PyData → Prop
  | v, .list ds => ∃ a xs, v = .ref a ∧ H a = some (.lst xs) ∧ DqAll K F xs ds
  | v, .dict kvs => (∃ a o, v = .ref a ∧ H a = some o ∧ DcOk K F a kvs o) ∨ ∃ x r, kvs = (.list [], .str x) :: r ∧ Dq K F v (.dict kvs)
  | v, d => Dq K F v d
section
variable {K : Kw} {μ : Mu} {F H : Hp} {st : Sto}
theorem Vw.of {v : V} {d : PyData} (s : Same F H) (h : Dq K F v d) : Vw K F H v d := by
  cases h with
  | lst h r => exact ⟨_, _, rfl, s _ _ h, r⟩
  | dic h r => exact .inl ⟨_, _, rfl, s _ _ h, .inl ⟨_, rfl, r⟩⟩
  | dig h r n z => exact .inl ⟨_, _, rfl, s _ _ h, .inr ⟨_, rfl, r, n, z⟩⟩
  | ins h g r => exact .inr ⟨_, _, rfl, .ins h g r⟩
  | non => exact .non
  | bl b => exact .bl b
  | int i => exact .int i
  | str x => exact .str x
  | tup h r => exact .tup h r
theorem Vw.dq {v : V} {d : PyData} (s : Same F H) (h : Vw K F H v d) : Dq K H v d := by
  cases d with
  | list ds => obtain ⟨a, xs, rfl, h1, h2⟩ := h; exact .lst h1 (h2.same s)
  | dict ds =>
    rcases h with ⟨a, o, rfl, h1, h2⟩ | ⟨x, r, rfl, h⟩
    · exact (h2.same s).dq h1
    · exact h.same s
  | none => exact Dq.same s h
  | bool b => exact Dq.same s h
  | int i => exact Dq.same s h
  | str x => exact Dq.same s h
  | tuple ds => exact Dq.same s h
theorem view_ok (s : SR K μ F H st) {x : Vl} {v : V} {d : PyData} (h : Vok K F μ x v) (e : view st x = some d) : Vw K F H v d := by
  cases x with
  | d y => cases e; exact Vw.of s.sub h
  | s ns => cases e
  | o x =>
    cases x with
    | ob j =>
      obtain ⟨a, h1, rfl⟩ := h
      have e : viewO st j = some d := e
      unfold viewO at e
      split at e
      · rename_i xs hx
        obtain ⟨objs, a', o, k1, k2, k3, k4, k5, k6, us, rfl, k7⟩ := s.obj hx
        rw [h1] at k4; cases k4
        cases q : fvsD xs with
        | none => rw [q] at e; cases e
        | some ds => rw [q] at e; cases e; exact ⟨_, _, rfl, k6, fvsD_ok k7 q⟩
      · cases e
    | tp ds =>
      cases e
      obtain ⟨a, xs, o, rfl, h1, _, h2⟩ := h
      exact Vw.of s.sub (.tup (.inr ⟨o, h1⟩) h2)
    | _ => cases e
  | c i =>
    obtain ⟨a, h1, rfl⟩ := h
    unfold view at e
    cases q : st[i]? with
    | none => simp only [q] at e; cases e
    | some c =>
      cases c with
      | l xs =>
        obtain ⟨b, o, g1, g2, g3⟩ := s.cell i _ q
        rw [h1] at g1; cases g1
        simp only [q] at e; cases e
        obtain ⟨vs, rfl, r⟩ := g3
        exact ⟨_, _, rfl, g2, r⟩
      | m xs =>
        simp only [q] at e
        cases hz : isGone (.m xs) with
        | true => rw [hz] at e; cases e
        | false =>
          rw [hz] at e
          cases e
          obtain ⟨b, o, g1, g2, g3⟩ := s.cell i _ q hz
          rw [h1] at g1; cases g1
          exact .inl ⟨_, _, rfl, g2, g3⟩
/-- keys that are ints and texts -/
def flK (kvs : List (PyData × PyData)) : Bool := kvs.all fun p => match p.1 with
  | .int _ => true
  | .str _ => true
  | _ => false
theorem DcOk.flat {a : Addr} {kvs : List (PyData × PyData)} {o : HO} (h : DcOk K F a kvs o) (f : flK kvs = true) : ∃ ws, o = .dK ws ∧ DqKv K F ws kvs := by
  rcases h with h | ⟨es, h1, h2, h3, h4⟩
  · exact h
  · cases h2 with
    | nil => exact absurd rfl h4
    | cons g _ _ _ _ =>
      unfold flK at f
      rw [List.all_cons, Bool.and_eq_true] at f
      cases g <;> exact absurd f.1 Bool.false_ne_true
theorem Vw.flat_dict {v : V} {kvs : List (PyData × PyData)} (h : Vw K F H v (.dict kvs)) (f : flK kvs = true) : ∃ a ws, v = .ref a ∧ H a = some (.dK ws) ∧ DqKv K F ws kvs := by
  rcases h with ⟨a, o, rfl, h1, h2⟩ | ⟨x, r, rfl, h⟩
  · obtain ⟨ws, rfl, h3⟩ := h2.flat f
    exact ⟨a, ws, rfl, h1, h3⟩
  · cases f
end
end Cp
/-! Cp1: expressions. -/
namespace Cp
open PySem L2
section
variable {X : Cx} {C : Cn} {Q : VK} {μ : Mu} {F H : Hp} {st : Sto} {e a b c : Expr} {m ma mb mc : Ev} {pos : Pos}
/-! ### how a rule's wish is met -/
theorem fin_d {x : PyData} {v : V} (s : SR C.K μ F H st) (h : PostE C Q μ F H (.ok (.d x) st)) (hv : Dq C.K F v x) : Q v H := h v μ F H ⟨Ext.refl, s, hv, fun _ e => nomatch e⟩
theorem fin_n {c : Cl} {p : Addr} {o : HO} (s : SR C.K μ F H st) (h : PostE C Q μ F H (.ok (.n c) st)) (hp : H p = none) (hc : ClOk C.K F p c o) : Q (.ref p) (upd H p o) :=
  let ⟨s1, x1⟩ := s.newly hp
  h _ μ F _ ⟨x1, s1, ⟨p, o, rfl, upd_same, hc, (s.dead hp).1, (s.dead hp).2⟩, fun _ _ => ⟨p, rfl, hp⟩⟩
theorem fin_t {ds : List PyData} {p : Addr} {xs : List V} (s : SR C.K μ F H st) (h : PostE C Q μ F H (.ok (.d (.tuple ds)) st)) (hp : H p = none) (hx : DqAll C.K F xs ds) : Q (.ref p) (upd H p (.tup xs)) := by
  obtain ⟨s1, x1⟩ := s.newly (o := .tup xs) hp
  obtain ⟨s2, x2, sm⟩ := s1.freeze x1 s.sub hp upd_same (s.dead hp).1 (s.dead hp).2
  exact h _ μ _ _ ⟨x2, s2, .tup (.inl upd_same) (hx.same sm), fun _ e => nomatch e⟩
/-! ### names, constants -/
def Rv.of : Vl → Rv
  | .d x => .d x
  | .c i => .c i
  | .s ns => .s ns
  | .o x => .o x
def mN (i : Nat) : Ev := fun ρ st => match ρ[i]? with
  | some (some x) => .ok (Rv.of x) st
  | _ => .no
def mK (x : PyData) : Ev := fun _ st => .ok (.d x) st
theorem s_name {i : Nat} (h : PE X e (tVar i)) : PE X e (tM C (mN i)) := h.imp fun σ H Q ⟨ρ, st, μ, F, h1, h2, h3⟩ => by
  unfold mN at h3
  cases q : ρ[i]? with
  | none => simp only [q] at h3; exact False.elim h3
  | some o =>
    cases o with
    | none => simp only [q] at h3; exact False.elim h3
    | some x =>
      simp only [q] at h3
      obtain ⟨v, e1, k⟩ := h1.2 i x q
      refine ⟨v, e1, h3 v μ F H ⟨Ext.refl, h2, ?_, fun c z => by cases x <;> cases z⟩⟩
      cases x <;> exact k
theorem s_const {x : PyData} {v : V} (h : PE X e (tC v)) (hd : ∀ F, Dq C.K F v x) : PE X e (tM C (mK x)) := h.imp fun σ H Q ⟨ρ, st, μ, F, h1, h2, h3⟩ => fin_d h2 h3 (hd F)
theorem s_int {i : Int} {j} : PE X (.Constant (.int i) j pos) (tM C (mK (.int i))) := s_const pe_int fun _ => .int i
theorem s_bool {i : Bool} {j} : PE X (.Constant (.bool i) j pos) (tM C (mK (.bool i))) := s_const pe_bl fun _ => .bl i
theorem s_none {j} : PE X (.Constant .none j pos) (tM C (mK .none)) := s_const pe_non fun _ => .non
theorem s_str {x : Str} {j} : PE X (.Constant (.str x) j pos) (tM C (mK (.str x))) := s_const pe_str fun _ => .str x
/-! ### operators of two values -/
def view2 (f : PyData → PyData → Option Rv) (s : Sto) (x y : Vl) : Res Rv := match view s x, view s y with
  | some a, some b => match f a b with
    | some r => .ok r s
    | none => .no
  | _, _ => .no
def mBin (f : PyData → PyData → Option Rv) (ma mb : Ev) : Ev := fun ρ st => (mV ma ρ st).bind fun x s1 => (mV mb ρ s1).bind fun y s2 => view2 f s2 x y
def BinOk (C : Cn) (r : R2) (f : PyData → PyData → Option Rv) : Prop :=
  ∀ (a b : PyData) (res : Rv) (v u : V) (μ : Mu) (F H : Hp) (st : Sto) (Q : VK), SR C.K μ F H st → Vw C.K F H v a → Vw C.K F H u b → f a b = some res → PostE C Q μ F H (.ok res st) → r v u H Q
theorem s_two {r : R2} {f : PyData → PyData → Option Rv} (h : PE X e (tOp r (tV C (mV ma)) (tV C (mV mb)))) (ok : BinOk C r f) : PE X e (tM C (mBin f ma mb)) :=
  h.imp fun σ H Q ⟨ρ, st, μ, F, h1, h2, h3⟩ => ⟨ρ, st, μ, F, h1, h2, Post.bindV gE_lat h3 fun x s v μ1 F1 H1 x1 r1 k1 h4 =>
    ⟨ρ, s, μ1, F1, h1.ext x1, r1, Post.bindV gE_lat h4 fun y s2 u μ2 F2 H2 x2 r2 k2 h5 => by
      unfold view2 at h5
      cases q1 : view s2 x with
      | none => simp only [q1] at h5; exact False.elim h5
      | some da =>
        cases q2 : view s2 y with
        | none => simp only [q1, q2] at h5; exact False.elim h5
        | some db =>
          cases q3 : f da db with
          | none => simp only [q1, q2, q3] at h5; exact False.elim h5
          | some res =>
            simp only [q1, q2, q3] at h5
            exact ok da db res v u μ2 F2 H2 s2 Q r2 (view_ok r2 (k1.ext x2) q1) (view_ok r2 k2 q2) q3 h5⟩⟩
theorem s_bin {op : Operator} {r : R2} {f : PyData → PyData → Option Rv} (ho : OpR X (binaryOp op) r) (ok : BinOk C r f) (ha : PE X a (tM C ma)) (hb : PE X b (tM C mb)) : PE X (.BinOp a op b pos) (tM C (mBin f ma mb)) :=
  s_two (pe_op ho (pv_frz ha) (pv_frz hb)) ok
theorem BinOk.or {r r' : R2} {f f' : PyData → PyData → Option Rv} (h : BinOk C r f) (h' : BinOk C r' f') : BinOk C (fun x y H Q => r x y H Q ∨ r' x y H Q) (fun a b => match f a b with | some z => some z | none => f' a b) := by
  intro a b res v u μ F H st Q s va vb e p
  cases q : f a b with
  | some z => simp only [q] at e; cases e; exact .inl (h a b _ v u μ F H st Q s va vb q p)
  | none => simp only [q] at e; exact .inr (h' a b res v u μ F H st Q s va vb e p)
/-- ints to an int -/
def fI (P : Int → Int → Bool) (g : Int → Int → Int) : PyData → PyData → Option Rv
  | .int i, .int j => if P i j then some (.d (.int (g i j))) else none
  | _, _ => none
theorem Vw.int {K : Kw} {v : V} {i : Int} (h : Vw K F H v (.int i)) : v = .int i := by cases (show Dq K F v (.int i) from h); rfl
theorem Vw.bl {K : Kw} {v : V} {i : Bool} (h : Vw K F H v (.bool i)) : v = .bl i := by cases (show Dq K F v (.bool i) from h); rfl
theorem Vw.str {K : Kw} {v : V} {i : Str} (h : Vw K F H v (.str i)) : v = .str i := by cases (show Dq K F v (.str i) from h); rfl
theorem Vw.non {K : Kw} {v : V} (h : Vw K F H v .none) : v = .non := by cases (show Dq K F v .none from h); rfl
theorem Vw.tup {K : Kw} {v : V} {ds : List PyData} (h : Vw K F H v (.tuple ds)) : ∃ a xs, v = .ref a ∧ Rd F a (.tup xs) ∧ DqAll K F xs ds := by cases (show Dq K F v (.tuple ds) from h) with | tup h1 h2 => exact ⟨_, _, rfl, h1, h2⟩
theorem fI_ok {P : Int → Int → Prop} {p : Int → Int → Bool} {g : Int → Int → Int} (hp : ∀ i j, p i j = true → P i j) : BinOk C (rI P fun i j => .int (g i j)) (fI p g) := by
  intro a b res v u μ F H st Q s va vb e h
  unfold fI at e
  split at e
  · split at e
    · rename_i hh
      cases e
      exact ⟨_, _, va.int, vb.int, hp _ _ hh, fin_d s h (.int _)⟩
    · cases e
  · cases e
theorem fI0_ok {g : Int → Int → Int} : BinOk C (rI0 fun i j => .int (g i j)) (fI (fun _ _ => true) g) := by
  intro a b res v u μ F H st Q s va vb e h
  unfold fI at e
  split at e
  · simp only [if_true] at e
    cases e
    exact ⟨_, _, va.int, vb.int, fin_d s h (.int _)⟩
  · cases e
/-- texts, tuples, lists joined -/
def fCatS : PyData → PyData → Option Rv
  | .str i, .str j => if i.length + j.length ≤ sizeLine then some (.d (.str (i ++ j))) else none
  | _, _ => none
def fCatT : PyData → PyData → Option Rv
  | .tuple i, .tuple j => if i.length + j.length ≤ sizeLine then some (.d (.tuple (i ++ j))) else none
  | _, _ => none
def fCatL : PyData → PyData → Option Rv
  | .list i, .list j => if i.length + j.length ≤ sizeLine then some (.n (.l (i ++ j))) else none
  | _, _ => none
theorem fCatS_ok : BinOk C (fun x y H Q => ∃ i j, x = .str i ∧ y = .str j ∧ i.length + j.length ≤ sizeLine ∧ Q (.str (i ++ j)) H) fCatS := by
  intro a b res v u μ F H st Q s va vb e h
  unfold fCatS at e
  split at e
  · split at e
    · cases e
      exact ⟨_, _, va.str, vb.str, by assumption, fin_d s h (.str _)⟩
    · cases e
  · cases e
theorem fCatT_ok {K : PySem.W.Frag} : BinOk C (rCatA K) fCatT := by
  intro a b res v u μ F H st Q s va vb e h
  unfold fCatT at e
  split at e
  · split at e
    · rename_i hz
      cases e
      obtain ⟨p, xs, rfl, p1, p2⟩ := va.tup
      obtain ⟨q, ys, rfl, q1, q2⟩ := vb.tup
      refine ⟨p, q, xs, ys, rfl, rfl, SqT.rd s.sub p1, SqT.rd s.sub q1, by rw [p2.length, q2.length]; exact hz, fun z => ?_, fun _ z => ?_, fun _ _ r hr => fin_t s h hr (p2.app q2)⟩
      · subst z
        cases p2
        exact fin_d s h (.tup q1 q2)
      · subst z
        cases q2
        exact fin_d s (by simpa using h) (.tup p1 p2)
    · cases e
  · cases e
theorem fCatL_ok : BinOk C rCat fCatL := by
  intro a b res v u μ F H st Q s va vb e h
  unfold fCatL at e
  split at e
  · split at e
    · rename_i hz
      cases e
      obtain ⟨p, xs, rfl, p1, p2⟩ := va
      obtain ⟨q, ys, rfl, q1, q2⟩ := vb
      exact ⟨p, q, xs, ys, rfl, rfl, p1, q1, by rw [p2.length, q2.length]; exact hz, fun r hr => fin_n s h hr ⟨_, rfl, p2.app q2⟩⟩
    · cases e
  · cases e
end
end Cp
/-! Cp2: comparisons, tests, places, slices, displays. -/
namespace Cp
open PySem L2
section
variable {X : Cx} {C : Cn} {Q : VK} {μ : Mu} {F H : Hp} {st : Sto} {e a b c : Expr} {m ma mb mc : Ev} {pos : Pos}
/-! ### comparisons -/
def CmpOk (C : Cn) (r : R2) (g : PyData → PyData → Option Bool) : Prop :=
  ∀ (a b : PyData) (k : Bool) (v u : V) (μ : Mu) (F H : Hp) (st : Sto) (Q : VK), SR C.K μ F H st → Vw C.K F H v a → Vw C.K F H u b → g a b = some k → Q (.bl k) H → r v u H Q
def cmp2 (g : PyData → PyData → Option Bool) (s : Sto) (x y : Vl) : Option Bool := match view s x, view s y with
  | some a, some b => g a b
  | _, _ => none
def okB (o : Option Bool) (s : Sto) : Res Bool := match o with
  | some k => .ok k s
  | none => .no
/-- a test's answer as a value -/
def bV (m : En → Sto → Res Bool) : Ev := fun ρ st => (m ρ st).bind fun k s => .ok (.d (.bool k)) s
def mCmp (g : PyData → PyData → Option Bool) (ma mb : Ev) : En → Sto → Res Bool := fun ρ st => (mV ma ρ st).bind fun x s1 => (mV mb ρ s1).bind fun y s2 => okB (cmp2 g s2 x y) s2
theorem CmpOk.or {r r' : R2} {f f' : PyData → PyData → Option Bool} (h : CmpOk C r f) (h' : CmpOk C r' f') : CmpOk C (fun x y H Q => r x y H Q ∨ r' x y H Q) (fun a b => match f a b with | some z => some z | none => f' a b) := by
  intro a b res v u μ F H st Q s va vb e p
  cases q : f a b with
  | some z => simp only [q] at e; cases e; exact .inl (h a b _ v u μ F H st Q s va vb q p)
  | none => simp only [q] at e; exact .inr (h' a b res v u μ F H st Q s va vb e p)
theorem cmp_core {β : Type} {G : β → Sto → Mu → Hp → Hp → Prop} (gl : Lat G) {r : R2} {g : PyData → PyData → Option Bool} (ok : CmpOk C r g) {σ : St} {ρ : En} {R : VK} (h1 : Eok C.K F μ ρ σ) {kk : Bool → Sto → Res β}
    (h3 : Post (C.at σ) G μ F H ((mCmp g ma mb ρ st).bind kk)) (fin : ∀ k s μ1 F1 H1, Ext μ F H μ1 F1 H1 → SR C.K μ1 F1 H1 s → Post (C.at σ) G μ1 F1 H1 (kk k s) → R (.bl k) H1) :
    PostV (C.at σ) (fun x H1 => tV C (mV mb) σ H1 fun y H2 => r x y H2 R) μ F H (mV ma ρ st) := by
  have h3' : Post (C.at σ) G μ F H ((mV ma ρ st).bind fun x s1 => ((mV mb ρ s1).bind fun y s2 => okB (cmp2 g s2 x y) s2).bind kk) := by
    revert h3
    unfold mCmp
    cases mV ma ρ st <;> exact id
  refine Post.bindV gl h3' fun x s v μ1 F1 H1 x1 r1 k1 h4 => ⟨ρ, s, μ1, F1, h1.ext x1, r1, ?_⟩
  have h4' : Post (C.at σ) G μ1 F1 H1 ((mV mb ρ s).bind fun y s2 => (okB (cmp2 g s2 x y) s2).bind kk) := by
    revert h4
    cases mV mb ρ s <;> exact id
  refine Post.bindV gl h4' fun y s2 u μ2 F2 H2 x2 r2 k2 h5 => ?_
  unfold cmp2 at h5
  cases q1 : view s2 x with
  | none => simp only [q1, okB] at h5; exact False.elim h5
  | some da =>
    cases q2 : view s2 y with
    | none => simp only [q1, q2, okB] at h5; exact False.elim h5
    | some db =>
      cases q3 : g da db with
      | none => simp only [q1, q2, q3, okB] at h5; exact False.elim h5
      | some k =>
        simp only [q1, q2, q3, okB] at h5
        exact ok da db k v u μ2 F2 H2 s2 R r2 (view_ok r2 (k1.ext x2) q1) (view_ok r2 k2 q2) q3 (fin k s2 μ2 F2 H2 (x1.trans x2) r2 h5)
theorem s_cmp {op : CmpOp} {r : R2} {g : PyData → PyData → Option Bool} (ho : OpR X (compareOp op) r) (ok : CmpOk C r g) (ha : PE X a (tM C ma)) (hb : PE X b (tM C mb)) (hm : behindInMarks op b = false) : PE X (.Compare a [op] [b] pos) (tM C (bV (mCmp g ma mb))) :=
  (pe_cmpR ho (pv_frz ha) (pv_frz hb) hm).imp fun σ H Q ⟨ρ, st, μ, F, h1, h2, h3⟩ => ⟨ρ, st, μ, F, h1, h2, cmp_core gE_lat ok h1 h3 fun k s μ1 F1 H1 x1 r1 h => fin_d r1 h (.bl k)⟩
theorem s_cmpT {op : CmpOp} {r : R2} {g : PyData → PyData → Option Bool} (ho : OpR X (compareOp op) r) (ok : CmpOk C r g) (ha : PE X a (tM C ma)) (hb : PE X b (tM C mb)) (hm : behindInMarks op b = false) : PT X (.Compare a [op] [b] pos) (tT C (mCmp g ma mb)) := by
  have h := pt_cmpR (pos := pos) ho (pv_frz ha) (pv_frz hb) hm
  refine ⟨fun pins s σ H Q I ⟨ρ, st, μ, F, h1, h2, h3⟩ => h.run pins s σ H Q I ⟨ρ, st, μ, F, h1, h2, ?_⟩⟩
  have h3' : PostB (C.at σ) Q μ F H ((mCmp g ma mb ρ st).bind fun k s => .ok k s) := by
    revert h3
    cases mCmp g ma mb ρ st <;> exact id
  exact cmp_core gB_lat ok h1 h3' fun k s μ1 F1 H1 x1 r1 h => ⟨k, rfl, h μ1 F1 H1 Ext.refl r1⟩
/-! ### their answers -/
mutual
theorem Dq.dp {K : Kw} {K' : PySem.W.Frag} {H : Hp} : ∀ {v : V} {d : PyData}, Dq K H v d → d.canLay0 = true → Dp K' H v d
  | _, _, .non, _ => .non
  | _, _, .bl b, _ => .bl b
  | _, _, .int i, _ => .int i
  | _, _, .str x, _ => .str x
  | _, _, .lst h r, c => .lst (SqL.of h) (DqAll.dp r c)
  | _, _, .tup h r, c => .tup (.inl h) (DqAll.dp r c)
  | _, _, .dic _ _, c => by simp [PyData.canLay0] at c
  | _, _, .dig _ _ _ _, c => by simp [PyData.canLay0] at c
  | _, _, .ins _ _ _, c => by simp [PyData.canLay0] at c
theorem DqAll.dp {K : Kw} {K' : PySem.W.Frag} {H : Hp} : ∀ {vs : List V} {ds : List PyData}, DqAll K H vs ds → PyData.canLayAll0 ds = true → DpAll K' H vs ds
  | _, _, .nil, _ => .nil
  | _, _, .cons h r, c => by
    rw [PyData.canLayAll0, Bool.and_eq_true] at c
    exact .cons (Dq.dp h c.1) (DqAll.dp r c.2)
end
def gEq (a b : PyData) : Option Bool := if SeqAt.shaped a && SeqAt.shaped b then some (PyData.eqv a b) else none
def gNe (a b : PyData) : Option Bool := if SeqAt.shaped a && SeqAt.shaped b then some (!PyData.eqv a b) else none
theorem gEq_ok {K : PySem.W.Frag} : CmpOk C (rEqD K) gEq := by
  intro a b k v u μ F H st Q s va vb e q
  unfold gEq at e
  split at e
  · rename_i hh
    rw [Bool.and_eq_true] at hh
    cases e
    exact ⟨a, b, (va.dq s.sub).dp (SeqAt.canLay_of_shaped hh.1), (vb.dq s.sub).dp (SeqAt.canLay_of_shaped hh.2), hh.1, hh.2, q⟩
  · cases e
theorem gNe_ok {K : PySem.W.Frag} : CmpOk C (rNeD K) gNe := by
  intro a b k v u μ F H st Q s va vb e q
  unfold gNe at e
  split at e
  · rename_i hh
    rw [Bool.and_eq_true] at hh
    cases e
    exact ⟨a, b, (va.dq s.sub).dp (SeqAt.canLay_of_shaped hh.1), (vb.dq s.sub).dp (SeqAt.canLay_of_shaped hh.2), hh.1, hh.2, q⟩
  · cases e
def gI (p : Int → Int → Bool) : PyData → PyData → Option Bool
  | .int i, .int j => some (p i j)
  | _, _ => none
theorem gI_ok {p : Int → Int → Bool} : CmpOk C (rI0 fun i j => .bl (p i j)) (gI p) := by
  intro a b k v u μ F H st Q s va vb e q
  unfold gI at e
  split at e
  · cases e; exact ⟨_, _, va.int, vb.int, q⟩
  · cases e
/-- is None; is True, is False -/
def gIsN : PyData → PyData → Option Bool
  | .none, .none => some true
  | _, .none => some false
  | _, _ => none
def gNotN (a b : PyData) : Option Bool := (gIsN a b).map (!·)
def isNone : PyData → Bool
  | .none => true
  | _ => false
theorem Vw.isN {K : Kw} {v : V} {d : PyData} (h : Vw K F H v d) : decide (v = .non) = isNone d := by
  cases d with
  | none => rw [h.non]; rfl
  | bool b => rw [h.bl]; rfl
  | int b => rw [h.int]; rfl
  | str b => rw [h.str]; rfl
  | tuple b => obtain ⟨p, xs, rfl, _⟩ := h.tup; rfl
  | list b => obtain ⟨p, xs, rfl, _⟩ := h; rfl
  | dict b =>
    rcases h with ⟨p, xs, rfl, _⟩ | ⟨x, r, rfl, h⟩
    · rfl
    · cases h <;> rfl
theorem gIsN_ok : CmpOk C (fun x y H Q => y = .non ∧ Q (.bl (decide (x = .non))) H) gIsN := by
  intro a b k v u μ F H st Q s va vb e q
  cases b with
  | none =>
    refine ⟨vb.non, ?_⟩
    rw [va.isN]
    cases a <;> (cases e; exact q)
  | _ => cases a <;> cases e
theorem gNotN_ok : CmpOk C (fun x y H Q => y = .non ∧ Q (.bl (!decide (x = .non))) H) gNotN := by
  intro a b k v u μ F H st Q s va vb e q
  cases b with
  | none =>
    refine ⟨vb.non, ?_⟩
    rw [va.isN]
    cases a <;> (cases e; exact q)
  | _ => cases a <;> cases e
/-- in a list or tuple of flat things -/
def flatD : PyData → Bool
  | .none => true
  | .bool _ => true
  | .int _ => true
  | .str _ => true
  | _ => false
def eqF : PyData → PyData → Bool
  | .none, .none => true
  | .bool a, .bool b => a == b
  | .bool a, .int b => (if a then 1 else 0) == b
  | .int a, .bool b => a == (if b then 1 else 0)
  | .int a, .int b => a == b
  | .str a, .str b => a == b
  | _, _ => false
def itemsD : PyData → Option (List PyData)
  | .list xs => some xs
  | .tuple xs => some xs
  | _ => none
def gIn (neg : Bool) (a b : PyData) : Option Bool := match itemsD b with
  | some xs => if flatD a && xs.all flatD then some (if neg then !xs.any (fun y => eqF y a) else xs.any (fun y => eqF y a)) else none
  | none => none
theorem flat_dq {K : Kw} {v : V} {d : PyData} (h : Dq K F v d) (f : flatD d = true) : flatV v = true ∧ ∀ {u : V} {e : PyData}, Dq K F u e → flatD e = true → eqV u v = eqF e d := by
  cases h with
  | non => exact ⟨rfl, fun {u e} g fe => by cases g <;> first | rfl | cases fe⟩
  | bl b => exact ⟨rfl, fun {u e} g fe => by cases g <;> first | rfl | cases fe⟩
  | int b => exact ⟨rfl, fun {u e} g fe => by cases g <;> first | rfl | cases fe⟩
  | str b => exact ⟨rfl, fun {u e} g fe => by cases g <;> first | rfl | cases fe⟩
  | lst _ _ => cases f
  | tup _ _ => cases f
  | dic _ _ => cases f
  | dig _ _ _ _ => cases f
  | ins _ _ _ => cases f
theorem flat_all {K : Kw} {v : V} {d : PyData} (h : Dq K F v d) (f : flatD d = true) : ∀ {vs : List V} {ds : List PyData}, DqAll K F vs ds → ds.all flatD = true → vs.all flatV = true ∧ inV v vs = ds.any (fun y => eqF y d)
  | _, _, .nil, _ => ⟨rfl, rfl⟩
  | _, _, .cons (v := u) (vs := us) (d := e) (ds := es) g r, c => by
    rw [List.all_cons, Bool.and_eq_true] at c
    obtain ⟨h1, h2⟩ := flat_all h f r c.2
    refine ⟨by rw [List.all_cons, (flat_dq g c.1).1, h1]; rfl, ?_⟩
    show ((u :: us).any fun y => eqV y v) = ((e :: es).any fun y => eqF y d)
    rw [List.any_cons, List.any_cons, (flat_dq h f).2 g c.1]
    exact congrArg _ h2
theorem Vw.flat {K : Kw} {v : V} {d : PyData} (h : Vw K F H v d) (f : flatD d = true) : Dq K F v d := by
  cases d with
  | list xs => cases f
  | dict xs => cases f
  | _ => exact h
theorem gIn_ok {K : PySem.W.Frag} {neg : Bool} : CmpOk C (rIn K neg) (gIn neg) := by
  intro a b k v u μ F H st Q s va vb e q
  unfold gIn at e
  cases b with
  | list ds =>
    simp only [itemsD] at e
    split at e
    · rename_i hh
      rw [Bool.and_eq_true] at hh
      cases e
      obtain ⟨p, xs, rfl, p1, p2⟩ := vb
      obtain ⟨h1, h2⟩ := flat_all (va.flat hh.1) hh.1 p2 hh.2
      exact ⟨p, xs, rfl, .inl (SqL.of p1), (flat_dq (va.flat hh.1) hh.1).1, h1, by rw [h2]; exact q⟩
    · cases e
  | tuple ds =>
    simp only [itemsD] at e
    split at e
    · rename_i hh
      rw [Bool.and_eq_true] at hh
      cases e
      obtain ⟨p, xs, rfl, p1, p2⟩ := vb.tup
      obtain ⟨h1, h2⟩ := flat_all (va.flat hh.1) hh.1 p2 hh.2
      exact ⟨p, xs, rfl, .inr (SqT.rd s.sub p1), (flat_dq (va.flat hh.1) hh.1).1, h1, by rw [h2]; exact q⟩
    · cases e
  | _ => cases e
/-! ### truth, and, or, not, if -/
def truD : PyData → Option Bool
  | .none => some false
  | .bool b => some b
  | .int i => some (i != 0)
  | .str y => if y.length ≤ sizeLine then some ((y.length : Int) != 0) else none
  | .list xs => some (!xs.isEmpty)
  | .tuple xs => some (!xs.isEmpty)
  | .dict xs => if flK xs then some (!xs.isEmpty) else none
theorem truD_ok {K : Kw} {K' : PySem.W.Frag} {v : V} {d : PyData} {k : Bool} (s : Same F H) (h : Vw K F H v d) (e : truD d = some k) : TruV K' v H k := by
  cases d with
  | none => cases e; rw [h.non]; exact rfl
  | bool b => cases e; rw [h.bl]; exact rfl
  | int b => cases e; rw [h.int]; exact rfl
  | str b =>
    rw [h.str]
    simp only [truD] at e
    by_cases hz : b.length ≤ sizeLine
    · rw [if_pos hz] at e; cases e; exact ⟨hz, rfl⟩
    · rw [if_neg hz] at e; cases e
  | list b => cases e; obtain ⟨p, xs, rfl, h1, h2⟩ := h; exact .inl ⟨xs, SqL.of h1, by cases h2 <;> rfl⟩
  | tuple b => cases e; obtain ⟨p, xs, rfl, h1, h2⟩ := h.tup; exact .inr (.inl ⟨xs, SqT.rd s h1, by cases h2 <;> rfl⟩)
  | dict b =>
    simp only [truD] at e
    by_cases hf : flK b = true
    · rw [if_pos hf] at e; cases e; obtain ⟨p, xs, rfl, h1, h2⟩ := h.flat_dict hf; exact .inr (.inr ⟨xs, h1, by cases h2 <;> rfl⟩)
    · rw [if_neg hf] at e; cases e
def mTru (m : Ev) : En → Sto → Res Bool := fun ρ st => (mV m ρ st).bind fun x s => okB ((view s x).bind truD) s
/-- an expression as a test -/
theorem s_test (h : PE X e (tM C m)) (he : ∀ whole, isTrue e X.env whole = (do let v ← whole; standAt e.pos; holding [v] (truthy v))) : PT X e (tT C (mTru m)) := by
  have h := pt_truth (pv_frz h) he
  refine ⟨fun pins s σ H Q I ⟨ρ, st, μ, F, h1, h2, h3⟩ => h.run pins s σ H Q I ⟨ρ, st, μ, F, h1, h2, ?_⟩⟩
  refine Post.bindV gB_lat h3 fun x s v μ1 F1 H1 x1 r1 k1 h4 => ?_
  cases q1 : view s x with
  | none => simp only [q1, Option.bind, okB] at h4; exact False.elim h4
  | some d =>
    cases q2 : truD d with
    | none => simp only [q1, q2, Option.bind, okB] at h4; exact False.elim h4
    | some k =>
      simp only [q1, q2, Option.bind, okB] at h4
      exact ⟨k, truD_ok r1.sub (view_ok r1 k1 q1) q2, h4 μ1 F1 H1 Ext.refl r1⟩
/-- a test as it is seen by one that wants the answer's continuation -/
theorem tT_bind {β : Type} {G : β → Sto → Mu → Hp → Hp → Prop} (gl : Lat G) {m : En → Sto → Res Bool} {kk : Bool → Sto → Res β} {σ : St} {ρ : En} {R : Bool → Hp → Prop} (h1 : Eok C.K F μ ρ σ) (h2 : SR C.K μ F H st)
    (h3 : Post (C.at σ) G μ F H ((m ρ st).bind kk)) (fin : ∀ k s μ1 F1 H1, Ext μ F H μ1 F1 H1 → SR C.K μ1 F1 H1 s → Eok C.K F1 μ1 ρ σ → Post (C.at σ) G μ1 F1 H1 (kk k s) → R k H1) : tT C m σ H R :=
  ⟨ρ, st, μ, F, h1, h2, Post.bindB gl h3 fun x s μ1 F1 H1 x1 r1 h4 => fin x s μ1 F1 H1 x1 r1 (h1.ext x1) h4⟩
def bAnd (ma mb : En → Sto → Res Bool) : En → Sto → Res Bool := fun ρ st => (ma ρ st).bind fun k s => if k = true then mb ρ s else .ok false s
def bOr (ma mb : En → Sto → Res Bool) : En → Sto → Res Bool := fun ρ st => (ma ρ st).bind fun k s => if k = true then .ok true s else mb ρ s
def bNot (ma : En → Sto → Res Bool) : En → Sto → Res Bool := fun ρ st => (ma ρ st).bind fun k s => .ok (!k) s
variable {ba bb bc : En → Sto → Res Bool} {rest : List Expr}
theorem w_and1 (ha : PT X a (tT C ba)) : PW X (.BoolOp .And [a] pos) (tT C ba) := pw_and1 ha
theorem w_or1 (ha : PT X a (tT C ba)) : PW X (.BoolOp .Or [a] pos) (tT C ba) := pw_or1 ha
theorem _root_.L2.PW.imp {t t' : TT} (h : PW X e t) (w : ∀ σ H Q, t' σ H Q → t σ H Q) : PW X e t' := ⟨fun wh pins s σ H Q I h' => h.run wh pins s σ H Q I (w σ H Q h')⟩
theorem _root_.L2.PT.imp {t t' : TT} (h : PT X e t) (w : ∀ σ H Q, t' σ H Q → t σ H Q) : PT X e t' := ⟨fun pins s σ H Q I h' => h.run pins s σ H Q I (w σ H Q h')⟩
theorem w_and (ha : PT X a (tT C ba)) (hb : PW X (.BoolOp .And (b :: rest) pos) (tT C bb)) : PW X (.BoolOp .And (a :: b :: rest) pos) (tT C (bAnd ba bb)) :=
  (pw_and ha hb).imp fun σ H Q ⟨ρ, st, μ, F, h1, h2, h3⟩ => tT_bind gB_lat h1 h2 h3 fun k s μ1 F1 H1 x1 r1 e1 h4 => by
    cases k with
    | true => simp only [if_true] at h4 ⊢; exact ⟨ρ, s, μ1, F1, e1, r1, h4⟩
    | false => simp only [Bool.false_eq_true, if_false] at h4 ⊢; exact h4 μ1 F1 H1 Ext.refl r1
theorem w_or (ha : PT X a (tT C ba)) (hb : PW X (.BoolOp .Or (b :: rest) pos) (tT C bb)) : PW X (.BoolOp .Or (a :: b :: rest) pos) (tT C (bOr ba bb)) :=
  (pw_or ha hb).imp fun σ H Q ⟨ρ, st, μ, F, h1, h2, h3⟩ => tT_bind gB_lat h1 h2 h3 fun k s μ1 F1 H1 x1 r1 e1 h4 => by
    cases k with
    | false => simp only [Bool.false_eq_true, if_false] at h4 ⊢; exact ⟨ρ, s, μ1, F1, e1, r1, h4⟩
    | true => simp only [if_true] at h4 ⊢; exact h4 μ1 F1 H1 Ext.refl r1
theorem s_notT (ha : PT X a (tT C ba)) : PT X (.UnaryOp .Not a pos) (tT C (bNot ba)) :=
  (pt_not ha).imp fun σ H Q ⟨ρ, st, μ, F, h1, h2, h3⟩ => tT_bind gB_lat h1 h2 h3 fun k s μ1 F1 H1 x1 r1 e1 h4 => h4 μ1 F1 H1 Ext.refl r1
def eIf (c : En → Sto → Res Bool) (ma mb : Ev) : Ev := fun ρ st => (c ρ st).bind fun k s => if k = true then ma ρ s else mb ρ s
theorem s_ifE {ce : Expr} (hc : PT X ce (tT C bc)) (ha : PE X a (tM C ma)) (hb : PE X b (tM C mb)) : PE X (.IfExp ce a b pos) (tM C (eIf bc ma mb)) :=
  (pe_ifExp hc ha hb).imp fun σ H Q ⟨ρ, st, μ, F, h1, h2, h3⟩ => tT_bind gE_lat h1 h2 h3 fun k s μ1 F1 H1 x1 r1 e1 h4 => by
    cases k with
    | true => simp only [if_true] at h4 ⊢; exact ⟨ρ, s, μ1, F1, e1, r1, h4⟩
    | false => simp only [Bool.false_eq_true, if_false] at h4 ⊢; exact ⟨ρ, s, μ1, F1, e1, r1, h4⟩
def eAnd (ma mb : Ev) : Ev := fun ρ st => (mV ma ρ st).bind fun x s => match x with
  | .d (.bool true) => mb ρ s
  | .d (.bool false) => .ok (.d (.bool false)) s
  | _ => .no
def eOr (ma mb : Ev) : Ev := fun ρ st => (mV ma ρ st).bind fun x s => match x with
  | .d (.bool true) => .ok (.d (.bool true)) s
  | .d (.bool false) => mb ρ s
  | _ => .no
def eNot (ma : Ev) : Ev := fun ρ st => (mV ma ρ st).bind fun x s => match x with
  | .d (.bool k) => .ok (.d (.bool (!k))) s
  | _ => .no
theorem s_one {op} (ha : PE X a (tM C ma)) : PE X (.BoolOp op [a] pos) (tM C ma) := pe_one ha
theorem s_and (ha : PE X a (tM C ma)) (hb : PE X (.BoolOp .And (b :: rest) pos) (tM C mb)) : PE X (.BoolOp .And (a :: b :: rest) pos) (tM C (eAnd ma mb)) :=
  (pe_and (pv_frz ha) hb).imp fun σ H Q ⟨ρ, st, μ, F, h1, h2, h3⟩ => ⟨ρ, st, μ, F, h1, h2, Post.bindV gE_lat h3 fun x s v μ1 F1 H1 x1 r1 k1 h4 => by
    cases x with
    | c i => exact False.elim h4
    | s i => exact False.elim h4
    | o i => exact False.elim h4
    | d x =>
      cases x with
      | bool k =>
        cases (show Dq C.K F1 v (.bool k) from k1)
        refine ⟨k, rfl, ?_⟩
        cases k with
        | true => simp only [if_true]; exact ⟨ρ, s, μ1, F1, h1.ext x1, r1, h4⟩
        | false => simp only [Bool.false_eq_true, if_false]; exact fin_d r1 h4 (.bl false)
      | _ => exact False.elim h4⟩
theorem s_or (ha : PE X a (tM C ma)) (hb : PE X (.BoolOp .Or (b :: rest) pos) (tM C mb)) : PE X (.BoolOp .Or (a :: b :: rest) pos) (tM C (eOr ma mb)) :=
  (pe_or (pv_frz ha) hb).imp fun σ H Q ⟨ρ, st, μ, F, h1, h2, h3⟩ => ⟨ρ, st, μ, F, h1, h2, Post.bindV gE_lat h3 fun x s v μ1 F1 H1 x1 r1 k1 h4 => by
    cases x with
    | c i => exact False.elim h4
    | s i => exact False.elim h4
    | o i => exact False.elim h4
    | d x =>
      cases x with
      | bool k =>
        cases (show Dq C.K F1 v (.bool k) from k1)
        refine ⟨k, rfl, ?_⟩
        cases k with
        | false => simp only [Bool.false_eq_true, if_false]; exact ⟨ρ, s, μ1, F1, h1.ext x1, r1, h4⟩
        | true => simp only [if_true]; exact fin_d r1 h4 (.bl true)
      | _ => exact False.elim h4⟩
theorem s_not (ha : PE X a (tM C ma)) : PE X (.UnaryOp .Not a pos) (tM C (eNot ma)) :=
  (pe_not (pv_frz ha)).imp fun σ H Q ⟨ρ, st, μ, F, h1, h2, h3⟩ => ⟨ρ, st, μ, F, h1, h2, Post.bindV gE_lat h3 fun x s v μ1 F1 H1 x1 r1 k1 h4 => by
    cases x with
    | c i => exact False.elim h4
    | s i => exact False.elim h4
    | o i => exact False.elim h4
    | d x =>
      cases x with
      | bool k =>
        cases (show Dq C.K F1 v (.bool k) from k1)
        exact ⟨k, rfl, fin_d r1 h4 (.bl _)⟩
      | _ => exact False.elim h4⟩
end
end Cp
/-! Cp3: places, slices, displays, calls of built-in functions and methods. -/
namespace Cp
open PySem L2
section
variable {X : Cx} {C : Cn} {Q : VK} {μ : Mu} {F H : Hp} {st : Sto} {e a b c : Expr} {m ma mb mc : Ev} {pos : Pos} {es : List Expr}
/-! ### places -/
theorem atI_dq {K : Kw} {xs : List V} {ds : List PyData} {i : Int} {d : PyData} (r : DqAll K F xs ds) (h : atI ds i = some d) : ∃ v, atI xs i = some v ∧ Dq K F v d := by
  unfold atI at h ⊢
  rw [r.length]
  cases q : ixN ds.length i with
  | none => rw [q] at h; cases h
  | some j =>
    rw [q] at h
    obtain ⟨v, h1, h2⟩ := r.get (show ds[j]? = some d from h)
    exact ⟨v, h1, h2⟩
theorem atI_ints {ns : List Int} {i k : Int} (h : atI ns i = some k) : atI (ns.map V.int) i = some (.int k) := by
  unfold atI at h ⊢
  rw [List.length_map]
  cases q : ixN ns.length i with
  | none => rw [q] at h; cases h
  | some j =>
    rw [q] at h
    have h : ns[j]? = some k := h
    show (ns.map V.int)[j]? = some (.int k)
    rw [List.getElem?_map, h]; rfl
def fIx : PyData → PyData → Option Rv
  | .list xs, .int i => (atI xs i).map .d
  | .tuple xs, .int i => (atI xs i).map .d
  | .str z, .int i => if z.length ≤ sizeLine then (atI z.cps.toList i).map fun c => .d (.str ⟨#[c]⟩) else none
  | _, _ => none
theorem fIx_ok {K : PySem.W.Frag} : BinOk C (rIx K) fIx := by
  intro a b res v u μ F H st Q s va vb e h
  unfold fIx at e
  split at e
  · obtain ⟨p, xs, rfl, p1, p2⟩ := va
    obtain ⟨d, hd, rfl⟩ := Option.map_eq_some_iff.mp e
    obtain ⟨w, h1, h2⟩ := atI_dq p2 hd
    exact .inl ⟨p, xs, _, w, rfl, vb.int, SqL.of p1, h1, fin_d s h h2⟩
  · obtain ⟨p, xs, rfl, p1, p2⟩ := va.tup
    obtain ⟨d, hd, rfl⟩ := Option.map_eq_some_iff.mp e
    obtain ⟨w, h1, h2⟩ := atI_dq p2 hd
    exact .inr (.inl ⟨p, xs, _, w, rfl, vb.int, SqT.rd s.sub p1, h1, fin_d s h h2⟩)
  · split at e
    · rename_i hz
      obtain ⟨d, hd, rfl⟩ := Option.map_eq_some_iff.mp e
      exact .inr (.inr ⟨_, _, d, va.str, vb.int, hz, hd, fin_d s h (.str _)⟩)
    · cases e
  · cases e
theorem s_ix (ha : PE X a (tM C ma)) (hb : PE X b (tM C mb)) (hs : PlainIx b) : PE X (.Subscript a b pos) (tM C (mBin fIx ma mb)) :=
  s_two (pe_ix ix_seq (pv_frz ha) (pv_frz hb) hs) fIx_ok
/-- script[i] -/
def mSix (ma mb : Ev) : Ev := fun ρ st => (mV ma ρ st).bind fun x s1 => (mV mb ρ s1).bind fun y s2 => match x, y with
  | .s ns, .d (.int i) => match atI ns i with
    | some k => .ok (.d (.int k)) s2
    | none => .no
  | _, _ => .no
theorem s_six (hK : C.K = X.K) (ha : PE X a (tM C ma)) (hb : PE X b (tM C mb)) (hs : PlainIx b) : PE X (.Subscript a b pos) (tM C (mSix ma mb)) :=
  (pe_ix ix_seq (pv_frz ha) (pv_frz hb) hs).imp fun σ H Q ⟨ρ, st, μ, F, h1, h2, h3⟩ => ⟨ρ, st, μ, F, h1, h2, Post.bindV gE_lat h3 fun x s v μ1 F1 H1 x1 r1 k1 h4 =>
    ⟨ρ, s, μ1, F1, h1.ext x1, r1, Post.bindV gE_lat h4 fun y s2 u μ2 F2 H2 x2 r2 k2 h5 => by
      cases x with
      | d _ => exact False.elim h5
      | c _ => exact False.elim h5
      | o _ => exact False.elim h5
      | s ns =>
        cases y with
        | s _ => exact False.elim h5
        | o _ => exact False.elim h5
        | c _ => exact False.elim h5
        | d y =>
          cases y with
          | int i =>
            cases q : atI ns i with
            | none => simp only [q] at h5; exact False.elim h5
            | some k =>
              simp only [q] at h5
              obtain ⟨p, rfl, hp⟩ := k1
              cases (show Dq C.K F2 u (.int i) from k2)
              exact .inl ⟨p, _, i, .int k, rfl, rfl, hK ▸ (r2.sub).seq (x2.same.seq hp), atI_ints q, fin_d r2 h5 (.int k)⟩
          | _ => exact False.elim h5⟩⟩
/-! ### argument lists, displays -/
def aNil : En → Sto → Res (List Vl) := fun _ st => .ok [] st
def aCons (mv : En → Sto → Res Vl) (mr : En → Sto → Res (List Vl)) : En → Sto → Res (List Vl) := fun ρ st => (mv ρ st).bind fun x s1 => (mr ρ s1).bind fun xs s2 => .ok (x :: xs) s2
theorem _root_.L2.PA.imp {t t' : TA} (h : PA X es t) (w : ∀ σ H Q, t' σ H Q → t σ H Q) : PA X es t' := ⟨fun pos pins s σ H Q I h' => h.run pos pins s σ H Q I (w σ H Q h')⟩
theorem a_nil : PA X [] (tAs C aNil) := pa_nil.imp fun σ H Q ⟨ρ, st, μ, F, h1, h2, h3⟩ => h3 [] μ F H Ext.refl h2 .nil
theorem a_consV {mv : En → Sto → Res Vl} {mr : En → Sto → Res (List Vl)} (ha : PE X e (tV C mv)) (hr : PA X es (tAs C mr)) (hs : starEach (e :: es) X.env = (false, eval e X.env) :: starEach es X.env := by rfl) : PA X (e :: es) (tAs C (aCons mv mr)) :=
  (pa_cons ha hr hs).imp fun σ H Q ⟨ρ, st, μ, F, h1, h2, h3⟩ => ⟨ρ, st, μ, F, h1, h2, Post.bindV gA_lat h3 fun x s v μ1 F1 H1 x1 r1 k1 h4 =>
    ⟨ρ, s, μ1, F1, h1.ext x1, r1, Post.bindA gA_lat h4 fun y s2 u μ2 F2 H2 x2 r2 k2 h5 => h5 (v :: u) μ2 F2 H2 Ext.refl r2 (.cons (k1.ext x2) k2)⟩⟩
theorem a_cons {mr : En → Sto → Res (List Vl)} (ha : PE X e (tM C m)) (hr : PA X es (tAs C mr)) (hs : starEach (e :: es) X.env = (false, eval e X.env) :: starEach es X.env := by rfl) : PA X (e :: es) (tAs C (aCons (mV m) mr)) := a_consV (pv_frz ha) hr hs
theorem a_consC {mr : En → Sto → Res (List Vl)} (ha : PE X e (tM C m)) (hr : PA X es (tAs C mr)) (hs : starEach (e :: es) X.env = (false, eval e X.env) :: starEach es X.env := by rfl) : PA X (e :: es) (tAs C (aCons (mVc m) mr)) := a_consV (pv_cell ha) hr hs
def allD : List Vl → Option (List PyData)
  | [] => some []
  | .d x :: r => match allD r with
    | some xs => some (x :: xs)
    | none => none
  | _ :: _ => none
theorem allD_ok {K : Kw} : ∀ {xs : List Vl} {vs : List V} {ds : List PyData}, VokAll K F μ xs vs → allD xs = some ds → DqAll K F vs ds
  | _, _, _, .nil, e => by cases e; exact .nil
  | x :: xs, _, _, .cons h r, e => by
    cases x with
    | c i => cases e
    | s i => cases e
    | o i => cases e
    | d x =>
      unfold allD at e
      cases q : allD xs with
      | none => simp only [q] at e; cases e
      | some ys => simp only [q] at e; cases e; exact .cons h (allD_ok r q)
def mTup (ma : En → Sto → Res (List Vl)) : Ev := fun ρ st => (ma ρ st).bind fun xs s => match allD xs with
  | some ds => if ds.length ≤ sizeLine then .ok (.d (.tuple ds)) s else .no
  | none => .no
def mLst (ma : En → Sto → Res (List Vl)) : Ev := fun ρ st => (ma ρ st).bind fun xs s => match allD xs with
  | some ds => if ds.length ≤ sizeLine then .ok (.n (.l ds)) s else .no
  | none => .no
variable {mas : En → Sto → Res (List Vl)}
theorem s_tup {k} (h : PA X es (tAs C mas)) : PE X (.Tuple es k pos) (tM C (mTup mas)) := (pe_tup h).imp fun σ H Q ⟨ρ, st, μ, F, h1, h2, h3⟩ => ⟨ρ, st, μ, F, h1, h2, Post.bindA gE_lat h3 fun x s v μ1 F1 H1 x1 r1 k1 h4 => by
  cases q : allD x with
  | none => simp only [q] at h4; exact False.elim h4
  | some ds =>
    simp only [q] at h4
    have r := allD_ok k1 q
    split at h4
    · exact ⟨by rw [r.length]; assumption, fun p hp => fin_t r1 h4 hp r⟩
    · exact False.elim h4⟩
theorem s_lst (h : PA X es (tAs C mas)) : PE X (.List es pos) (tM C (mLst mas)) := (pe_lst h).imp fun σ H Q ⟨ρ, st, μ, F, h1, h2, h3⟩ => ⟨ρ, st, μ, F, h1, h2, Post.bindA gE_lat h3 fun x s v μ1 F1 H1 x1 r1 k1 h4 => by
  cases q : allD x with
  | none => simp only [q] at h4; exact False.elim h4
  | some ds =>
    simp only [q] at h4
    have r := allD_ok k1 q
    split at h4
    · exact ⟨by rw [r.length]; assumption, fun p hp => fin_n r1 h4 hp ⟨_, rfl, r⟩⟩
    · exact False.elim h4⟩
/-! ### slices -/
abbrev gO (C : Cn) (Q : Option Int → Hp → Prop) : Option Int → Sto → Mu → Hp → Hp → Prop := fun o st μ F H => ∀ μ' F' H', Ext μ F H μ' F' H' → SR C.K μ' F' H' st → Q o H'
def tO (C : Cn) (m : En → Sto → Res (Option Int)) : TO := fun σ H Q => At C σ H fun ρ st μ F => Post (C.at σ) (gO C Q) μ F H (m ρ st)
def oNone : En → Sto → Res (Option Int) := fun _ st => .ok none st
def oSome (m : Ev) : En → Sto → Res (Option Int) := fun ρ st => (mV m ρ st).bind fun x s => match x with
  | .d (.int i) => .ok (some i) s
  | _ => .no
theorem _root_.L2.PO.imp {o : Option Expr} {t t' : TO} (h : PO X o t) (w : ∀ σ H Q, t' σ H Q → t σ H Q) : PO X o t' := ⟨fun pins s σ H Q I h' => h.run pins s σ H Q I (w σ H Q h')⟩
theorem o_none : PO X none (tO C oNone) := po_none.imp fun σ H Q ⟨ρ, st, μ, F, h1, h2, h3⟩ => h3 μ F H Ext.refl h2
theorem gO_lat {Q : Option Int → Hp → Prop} : Lat (gO C Q) := ⟨fun x h μ' F' H' y s => h μ' F' H' (x.trans y) s⟩
theorem o_some (h : PE X e (tM C m)) : PO X (some e) (tO C (oSome m)) := (po_some (pv_frz h)).imp fun σ H Q ⟨ρ, st, μ, F, h1, h2, h3⟩ => ⟨ρ, st, μ, F, h1, h2, Post.bindV gO_lat h3 fun x s v μ1 F1 H1 x1 r1 k1 h4 => by
  cases x with
  | c i => exact False.elim h4
  | s i => exact False.elim h4
  | o i => exact False.elim h4
  | d x =>
    cases x with
    | int i => cases (show Dq C.K F1 v (.int i) from k1); exact ⟨i, rfl, h4 μ1 F1 H1 Ext.refl r1⟩
    | _ => exact False.elim h4⟩
def cutD (xs : List PyData) (lo hi : Option Int) : List PyData := (xs.drop (HT.sIx xs.length 0 lo)).take (HT.sIx xs.length xs.length hi - HT.sIx xs.length 0 lo)
def fSl (a : PyData) (lo hi : Option Int) : Option Rv := match a with
  | .list xs => some (.n (.l (cutD xs lo hi)))
  | .tuple xs => some (.d (.tuple (cutD xs lo hi)))
  | .str z => if z.length ≤ sizeLine then some (.d (.str (cutS z lo hi))) else none
  | _ => none
theorem cut_dq {K : Kw} {xs : List V} {ds : List PyData} (r : DqAll K F xs ds) (lo hi : Option Int) : DqAll K F (cutV xs lo hi) (cutD ds lo hi) := by
  unfold cutV cutD
  rw [r.length]
  exact (r.drop _).take _
def mSl (ma : Ev) (ml mh : En → Sto → Res (Option Int)) : Ev := fun ρ st => (mV ma ρ st).bind fun x s1 => (ml ρ s1).bind fun l s2 => (mh ρ s2).bind fun h s3 => match view s3 x with
  | some d => match fSl d l h with
    | some r => .ok r s3
    | none => .no
  | none => .no
theorem s_sl {lo hi : Option Expr} {p2 : Pos} {ml mh : En → Sto → Res (Option Int)} (ha : PE X a (tM C ma)) (hl : PO X lo (tO C ml)) (hh : PO X hi (tO C mh)) : PE X (.Subscript a (.Slice lo hi none p2) pos) (tM C (mSl ma ml mh)) := by
  have h := pe_slice (pos := pos) (p2 := p2) (SlR.or (sl_list (X := X)) (SlR.or sl_tupA sl_str)) (pv_frz ha) hl hh
  refine h.imp fun σ H Q ⟨ρ, st, μ, F, h1, h2, h3⟩ => ⟨ρ, st, μ, F, h1, h2, Post.bindV gE_lat h3 fun x s v μ1 F1 H1 x1 r1 k1 h4 => ⟨ρ, s, μ1, F1, h1.ext x1, r1, ?_⟩⟩
  have bindO : ∀ {β : Type} {G : β → Sto → Mu → Hp → Hp → Prop} (g : Lat G) {mm : Res (Option Int)} {k : Option Int → Sto → Res β} {R : Option Int → Hp → Prop} {μ : Mu} {F H : Hp}, Post (C.at σ) G μ F H (mm.bind k) →
      (∀ x s μ1 F1 H1, Ext μ F H μ1 F1 H1 → SR C.K μ1 F1 H1 s → Post (C.at σ) G μ1 F1 H1 (k x s) → R x H1) → Post (C.at σ) (gO C R) μ F H mm := by
    intro β G g mm k R μ F H h hk
    cases mm with
    | ok x s => exact fun μ1 F1 H1 e s1 => hk x s μ1 F1 H1 e s1 (Post.later g e h)
    | er e s => exact h
    | no => exact h
  refine bindO gE_lat h4 fun l s2 μ2 F2 H2 x2 r2 h5 => ⟨ρ, s2, μ2, F2, (h1.ext x1).ext x2, r2, bindO gE_lat h5 fun hh s3 μ3 F3 H3 x3 r3 h6 => ?_⟩
  have k3 := (k1.ext x2).ext x3
  cases q : view s3 x with
  | none => simp only [q] at h6; exact False.elim h6
  | some d =>
    simp only [q] at h6
    have w := view_ok r3 k3 q
    cases d with
    | list ds =>
      simp only [fSl] at h6
      obtain ⟨p, xs, rfl, p1, p2⟩ := w
      exact .inl ⟨p, xs, rfl, SqL.of p1, fun r hr => fin_n r3 h6 hr ⟨_, rfl, cut_dq p2 _ _⟩⟩
    | tuple ds =>
      simp only [fSl] at h6
      obtain ⟨p, xs, rfl, p1, p2⟩ := w.tup
      refine .inr (.inl ⟨p, xs, rfl, SqT.rd r3.sub p1, fun hw => ?_, fun _ r hr => fin_t r3 h6 hr (cut_dq p2 _ _)⟩)
      have e : cutD ds l hh = ds := by
        rw [p2.length] at hw
        unfold cutD
        rw [hw.1, hw.2]; simp
      rw [e] at h6
      exact fin_d r3 h6 (.tup p1 p2)
    | str z =>
      simp only [fSl] at h6
      by_cases hz : z.length ≤ sizeLine
      · rw [if_pos hz] at h6
        exact .inr (.inr ⟨z, w.str, hz, fin_d r3 h6 (.str _)⟩)
      · rw [if_neg hz] at h6; exact False.elim h6
    | _ => exact False.elim h6
end
end Cp
/-! Cs: data read off the heap, sorted, shown. -/
namespace Cp
open PySem L2
section
variable {X : Cx} {pins : List (Addr × Obj)} {σ : St} {H F : Hp} {s : Shared} {K : Kw}
theorem key_reads {P : Program} {w : World} {h : Heap} (k : Key) (v : Value) (e : (mixKind P w).is k v = true) : Reads h v (kD k) [] := by
  rcases keyIs_shape (k := k) (v := v) e with ⟨i, t, rfl, rfl⟩ | ⟨x, t, rfl, rfl⟩
  · exact .int i t
  · exact .str x t
mutual
theorem Dq.reads (I : Inv X pins σ H s) : ∀ {v : V} {d : PyData} {u : Value}, Dq K H v d → RelV v u → d.hasDict = false → ∃ as, Reads s.heap u d as
  | _, _, _, .non, r, _ => by cases r; exact ⟨_, .none⟩
  | _, _, _, .bl b, r, _ => by cases r; exact ⟨_, .bool b⟩
  | _, _, _, .int i, r, _ => by obtain ⟨t, rfl⟩ := r; exact ⟨_, .int i t⟩
  | _, _, _, .str x, r, _ => by obtain ⟨t, rfl⟩ := r; exact ⟨_, .str x t⟩
  | _, _, _, .lst h q, r, n => by
    cases r
    obtain ⟨its, rv, ⟨o, k, ho, hc, _, hd⟩, _⟩ := I.list (SqL.of h)
    obtain ⟨as, hr⟩ := DqAll.reads I q rv n
    exact ⟨_, .list ho hc hd hr⟩
  | _, _, _, .tup h q, r, n => by
    cases r
    obtain ⟨its, rv, ⟨o, ho, hc, k, hd⟩, _⟩ := I.tuple (.inl h)
    obtain ⟨as, hr⟩ := DqAll.reads I q rv n
    exact ⟨_, .tuple ho hc hd hr⟩
  | _, _, _, .dic _ _, _, n => by cases n
  | _, _, _, .dig _ _ _ _, _, n => by cases n
  | _, _, _, .ins _ _ _, _, n => by cases n
theorem DqAll.reads (I : Inv X pins σ H s) : ∀ {vs : List V} {ds : List PyData} {us : List Value}, DqAll K H vs ds → Vals vs us → PyData.hasDictAll ds = false → ∃ as, ReadsAll s.heap us ds as
  | _, _, _, .nil, r, _ => by cases r; exact ⟨_, .nil⟩
  | _, _, _, .cons h q, r, n => by
    have n' : (PyData.hasDict _ || PyData.hasDictAll _) = false := n
    rw [Bool.or_eq_false_iff] at n'
    cases r with
    | cons r1 r2 =>
      obtain ⟨as, q1⟩ := Dq.reads I h r1 n'.1
      obtain ⟨bs, q2⟩ := DqAll.reads I q r2 n'.2
      exact ⟨_, .cons q1 q2⟩
end
end
/-! ### sorted of a list or a tuple -/
end Cp
/-! Cp4: calls of built-in functions. -/
namespace Cp
open PySem L2
section
variable {X : Cx} {C : Cn} {Q : VK} {μ : Mu} {F H : Hp} {st : Sto} {e a b c : Expr} {m ma mb mc : Ev} {pos p : Pos} {es : List Expr} {mas : En → Sto → Res (List Vl)} {x : Str} {id T : String}
def CallOk (C : Cn) (r : List V → Hp → VK → Prop) (g : Sto → List Vl → Option Rv) : Prop :=
  ∀ (xs : List Vl) (res : Rv) (vs : List V) (μ : Mu) (F H : Hp) (st : Sto) (Q : VK), SR C.K μ F H st → VokAll C.K F μ xs vs → g st xs = some res → PostE C Q μ F H (.ok res st) → r vs H Q
def mCal (g : Sto → List Vl → Option Rv) (ma : En → Sto → Res (List Vl)) : Ev := fun ρ st => (ma ρ st).bind fun xs s => match g s xs with
  | some r => .ok r s
  | none => .no
theorem s_args {r : List V → Hp → VK → Prop} {g : Sto → List Vl → Option Rv} (h : PE X e (tCB r (tAs C mas))) (ok : CallOk C r g) : PE X e (tM C (mCal g mas)) :=
  h.imp fun σ H Q ⟨ρ, st, μ, F, h1, h2, h3⟩ => ⟨ρ, st, μ, F, h1, h2, Post.bindA gE_lat h3 fun x s v μ1 F1 H1 x1 r1 k1 h4 => by
    cases q : g s x with
    | none => simp only [q] at h4; exact False.elim h4
    | some res => simp only [q] at h4; exact ok x res v μ1 F1 H1 s _ r1 k1 q h4⟩
theorem s_callB {r : List V → Hp → VK → Prop} {g : Sto → List Vl → Option Rv} (hc : CallR X (.builtin id) r) (ok : CallOk C r g) (hg : Gl X x) (hm : X.mg x = none) (hv : bootBuiltins x = some (.builtin id)) (ha : PA X (e :: es) (tAs C mas)) (hn : x ≠ "__name__" := by decide) (hdb : (x == ("__debug__" : Str)) = false := by decide)
    (he : starEach (e :: es) X.env = (false, eval e X.env) :: starEach es X.env := by rfl) (hpl : (backTo pos (starEach es X.env)).any (·.1) = false := by rfl) : PE X (.Call (.Name x p) (e :: es) [] pos) (tM C (mCal g mas)) := s_args (pe_callB hc hg hm hv ha hn hdb he hpl) ok
theorem s_callTy {r : List V → Hp → VK → Prop} {g : Sto → List Vl → Option Rv} (hc : CallR X (.type T) r) (ok : CallOk C r g) (hg : Gl X x) (hm : X.mg x = none) (hv : bootBuiltins x = some (.type T)) (ha : PA X (e :: es) (tAs C mas)) (hn : x ≠ "__name__" := by decide) (hdb : (x == ("__debug__" : Str)) = false := by decide)
    (he : starEach (e :: es) X.env = (false, eval e X.env) :: starEach es X.env := by rfl) (hpl : (backTo pos (starEach es X.env)).any (·.1) = false := by rfl) : PE X (.Call (.Name x p) (e :: es) [] pos) (tM C (mCal g mas)) := s_args (pe_callTy hc hg hm hv ha hn hdb he hpl) ok
theorem VokAll.one {K : Kw} {y : Vl} {vs : List V} (h : VokAll K F μ [y] vs) : ∃ v, vs = [v] ∧ Vok K F μ y v := by cases h with | cons h r => cases r; exact ⟨_, rfl, h⟩
theorem VokAll.two {K : Kw} {y z : Vl} {vs : List V} (h : VokAll K F μ [y, z] vs) : ∃ v u, vs = [v, u] ∧ Vok K F μ y v ∧ Vok K F μ z u := by
  cases h with
  | cons h r =>
    cases r with
    | cons h2 r => cases r; exact ⟨_, _, rfl, h, h2⟩
/-- a function of one value's content -/
def g1 (f : PyData → Option Rv) : Sto → List Vl → Option Rv
  | s, [y] => match view s y with
    | some d => f d
    | none => none
  | _, _ => none
theorem g1_ok {r : List V → Hp → VK → Prop} {f : PyData → Option Rv}
    (h : ∀ (d : PyData) (res : Rv) (v : V) (μ : Mu) (F H : Hp) (st : Sto) (Q : VK), SR C.K μ F H st → Vw C.K F H v d → f d = some res → PostE C Q μ F H (.ok res st) → r [v] H Q) : CallOk C r (g1 f) := by
  intro xs res vs μ F H st Q s k e p
  unfold g1 at e
  split at e
  · obtain ⟨v, rfl, hv⟩ := k.one
    split at e
    · rename_i hq
      exact h _ res v μ F H _ Q s (view_ok s hv hq) e p
    · cases e
  · cases e
/-- .. of two ints -/
def gII (f : Int → Int → Int) : Sto → List Vl → Option Rv
  | _, [.d (.int i), .d (.int j)] => some (.d (.int (f i j)))
  | _, _ => none
theorem gII_ok {r : List V → Hp → VK → Prop} {f : Int → Int → Int} (h : ∀ (i j : Int) (H : Hp) (Q : VK), Q (.int (f i j)) H → r [.int i, .int j] H Q) : CallOk C r (gII f) := by
  intro xs res vs μ F H st Q s k e p
  unfold gII at e
  split at e
  · obtain ⟨v, u, rfl, hv, hu⟩ := k.two
    cases e
    cases (show Dq C.K F v (.int _) from hv)
    cases (show Dq C.K F u (.int _) from hu)
    exact h _ _ H Q (fin_d s p (.int _))
  · cases e
def fAbs : PyData → Option Rv
  | .int i => some (.d (.int (if i < 0 then -i else i)))
  | _ => none
theorem c_abs : CallR X (.builtin "abs") (fun xs H Q => ∃ i, xs = [.int i] ∧ Q (.int (if i < 0 then -i else i)) H) ∧ CallOk C (fun xs H Q => ∃ i, xs = [.int i] ∧ Q (.int (if i < 0 then -i else i)) H) (g1 fAbs) :=
  ⟨call_abs, g1_ok fun d res v μ F H st Q s w e p => by
    cases d with
    | int i => cases e; exact ⟨i, by rw [w.int], fin_d s p (.int _)⟩
    | _ => cases e⟩
/-- len -/
def fLen : PyData → Option Rv
  | .str y => if y.length ≤ sizeLine then some (.d (.int y.length)) else none
  | .list xs => some (.d (.int xs.length))
  | .tuple xs => some (.d (.int xs.length))
  | _ => none
def gLen : Sto → List Vl → Option Rv
  | _, [.s ns] => some (.d (.int ns.length))
  | s, xs => g1 fLen s xs
theorem gLen_ok (hK : C.K = X.K) : CallOk C (fun xs H Q => ∃ x n, xs = [x] ∧ LenV X.K x H n ∧ Q (.int n) H) gLen := by
  intro xs res vs μ F H st Q s k e p
  unfold gLen at e
  split at e
  · obtain ⟨v, rfl, q, rfl, hq⟩ := k.one
    cases e
    exact ⟨_, _, rfl, .inl ⟨_, hK ▸ s.sub.seq hq, by rw [List.length_map]⟩, fin_d s p (.int _)⟩
  · refine g1_ok (C := C) (r := fun xs H Q => ∃ x n, xs = [x] ∧ LenV X.K x H n ∧ Q (.int n) H) (fun d res v μ F H st Q s w e p => ?_) xs res vs μ F H _ Q s k e p
    cases d with
    | str y =>
      simp only [fLen] at e
      split at e
      · cases e; exact ⟨_, _, rfl, by rw [w.str]; exact ⟨by assumption, rfl⟩, fin_d s p (.int _)⟩
      · cases e
    | list ys =>
      cases e
      obtain ⟨q, zs, rfl, q1, q2⟩ := w
      exact ⟨_, _, rfl, .inl ⟨zs, SqL.of q1, q2.length.symm⟩, fin_d s p (.int _)⟩
    | tuple ys =>
      cases e
      obtain ⟨q, zs, rfl, q1, q2⟩ := w.tup
      exact ⟨_, _, rfl, .inr ⟨zs, SqT.rd s.sub q1, q2.length.symm⟩, fin_d s p (.int _)⟩
    | _ => cases e
/-- int of an int, a bool -/
def fInt : PyData → Option Rv
  | .int i => some (.d (.int i))
  | .bool k => some (.d (.int (if k then 1 else 0)))
  | _ => none
theorem fInt_ok : CallOk C (fun xs H Q => (∃ i, xs = [.int i] ∧ Q (.int i) H) ∨ ∃ k, xs = [.bl k] ∧ Q (.int (if k then 1 else 0)) H) (g1 fInt) := g1_ok fun d res v μ F H st Q s w e p => by
  cases d with
  | int i => cases e; exact .inl ⟨i, by rw [w.int], fin_d s p (.int _)⟩
  | bool i => cases e; exact .inr ⟨i, by rw [w.bl], fin_d s p (.int _)⟩
  | _ => cases e
/-- str of an int -/
def fStr : PyData → Option Rv
  | .int i => if i.natAbs.log2 < 1920 then some (.d (.str (toString i))) else none
  | _ => none
def boolsD : List PyData → Option (List Bool)
  | [] => some []
  | .bool i :: r => (boolsD r).map (i :: ·)
  | _ :: _ => none
theorem boolsD_ok {K : Kw} : ∀ {vs : List V} {ds : List PyData} {ns : List Bool}, DqAll K F vs ds → boolsD ds = some ns → vs = ns.map V.bl
  | _, _, _, .nil, e => by cases e; rfl
  | _, d :: ds, _, .cons h r, e => by
    cases d with
    | bool i =>
      obtain ⟨ms, hm, rfl⟩ := Option.map_eq_some_iff.mp (show (boolsD ds).map (i :: ·) = _ from e)
      cases h
      rw [boolsD_ok r hm]; rfl
    | _ => cases e
def fAll : PyData → Option Rv
  | .list xs => (boolsD xs).map fun ns => .d (.bool (ns.all fun b => b))
  | _ => none
theorem fAll_ok {K : PySem.W.Frag} : CallOk C (rAll K) (g1 fAll) := g1_ok fun d res v μ F H st Q s w e p => by
  cases d with
  | list ys =>
    obtain ⟨ns, hn, rfl⟩ := Option.map_eq_some_iff.mp (show (boolsD ys).map _ = _ from e)
    obtain ⟨q, zs, rfl, q1, q2⟩ := w
    exact ⟨q, ns, rfl, SqL.of (by rw [← boolsD_ok q2 hn]; exact q1), fin_d s p (.bl _)⟩
  | _ => cases e
/-- list, tuple of a list or a tuple -/
def fList : PyData → Option Rv
  | .list xs => some (.n (.l xs))
  | .tuple xs => some (.n (.l xs))
  | _ => none
def fTuple : PyData → Option Rv
  | .list xs => some (.d (.tuple xs))
  | .tuple xs => some (.d (.tuple xs))
  | _ => none
theorem fList_ok {K : PySem.W.Frag} : CallOk C (fun xs H Q => ∃ p ys, xs = [.ref p] ∧ (SqL K H p ys ∨ SqT K H p ys) ∧ ∀ l, H l = none → Q (.ref l) (upd H l (.lst ys))) (g1 fList) := g1_ok fun d res v μ F H st Q s w e p => by
  cases d with
  | list ys => cases e; obtain ⟨q, zs, rfl, q1, q2⟩ := w; exact ⟨q, zs, rfl, .inl (SqL.of q1), fun l hl => fin_n s p hl ⟨_, rfl, q2⟩⟩
  | tuple ys => cases e; obtain ⟨q, zs, rfl, q1, q2⟩ := w.tup; exact ⟨q, zs, rfl, .inr (SqT.rd s.sub q1), fun l hl => fin_n s p hl ⟨_, rfl, q2⟩⟩
  | _ => cases e
theorem fTuple_ok {K : PySem.W.Frag} : CallOk C (fun xs H Q => ∃ p ys, xs = [.ref p] ∧ ((SqL K H p ys ∧ ∀ l, H l = none → Q (.ref l) (upd H l (.tup ys))) ∨ (SqT K H p ys ∧ Q (.ref p) H))) (g1 fTuple) := g1_ok fun d res v μ F H st Q s w e p => by
  cases d with
  | list ys => cases e; obtain ⟨q, zs, rfl, q1, q2⟩ := w; exact ⟨q, zs, rfl, .inl ⟨SqL.of q1, fun l hl => fin_t s p hl q2⟩⟩
  | tuple ys => cases e; obtain ⟨q, zs, rfl, q1, q2⟩ := w.tup; exact ⟨q, zs, rfl, .inr ⟨SqT.rd s.sub q1, fin_d s p (.tup q1 q2)⟩⟩
  | _ => cases e
end
/-! ### sorted -/
/-! ### repr -/
section
mutual
def noLst : PyData → Bool
  | .list xs => noLstA xs
  | .tuple xs => noLstA xs
  | .dict kvs => flK kvs && noLstK kvs
  | _ => true
def noLstA : List PyData → Bool
  | [] => true
  | x :: xs => noLst x && noLstA xs
def noLstK : List (PyData × PyData) → Bool
  | [] => true
  | (_, x) :: xs => noLst x && noLstK xs
end
variable {X : Cx} {C : Cn} {pins : List (Addr × Obj)} {σ : St} {H F : Hp} {s : Shared} {K : Kw}
/-- the table of modules is a dict -/
def SysK (K : PySem.W.Frag) : Prop := ∃ o es n, K.lookup sysModules = some o ∧ o.data = .dict es n
mutual
theorem Dq.sys (hS : SysK X.K) (I : Inv X pins σ H s) : ∀ {v : V} {d : PyData} {u : Value}, Dq K H v d → RelV v u → noLst d = true → ∃ as, Reads s.heap u d as ∧ sysModules ∉ as
  | _, _, _, .non, r, _ => by cases r; exact ⟨_, .none, by simp⟩
  | _, _, _, .bl b, r, _ => by cases r; exact ⟨_, .bool b, by simp⟩
  | _, _, _, .int i, r, _ => by obtain ⟨t, rfl⟩ := r; exact ⟨_, .int i t, by simp⟩
  | _, _, _, .str x, r, _ => by obtain ⟨t, rfl⟩ := r; exact ⟨_, .str x t, by simp⟩
  | _, _, _, .lst (a := a) h q, r, n => by
    cases r
    obtain ⟨its, rv, ⟨o, k, ho, hc, _, hd⟩, _⟩ := I.list (SqL.of h)
    obtain ⟨as, hr, hs⟩ := DqAll.sys hS I q rv (by simpa [noLst] using n)
    refine ⟨_, .list ho hc hd hr, ?_⟩
    rw [List.mem_cons, not_or]
    refine ⟨fun e => ?_, hs⟩
    subst e
    obtain ⟨o', es, m, g1, g2⟩ := hS
    rw [I.kIn _ _ g1] at ho
    cases ho
    rw [g2] at hd; cases hd
  | _, _, _, .tup h q, r, n => by
    cases r
    obtain ⟨its, rv, ⟨o, ho, hc, n', hd⟩, _⟩ := I.tuple (.inl h)
    obtain ⟨as, hr, hs⟩ := DqAll.sys hS I q rv (by simpa [noLst] using n)
    exact ⟨_, .tuple ho hc hd hr, hs⟩
  | _, _, _, .dic h q, r, n => by
    cases r
    obtain ⟨_, na, vs, kv, hd⟩ := I.hok _ _ h
    have n' : (flK _ && noLstK _) = true := n
    rw [Bool.and_eq_true] at n'
    obtain ⟨bs, p, hs⟩ := DqKv.sys hS I q kv n'.2
    refine ⟨_, PyProof.V.reads_dictOf (fun k v e => key_reads k v e) hd p, ?_⟩
    rw [List.mem_cons, not_or]
    exact ⟨fun e => by rw [← e] at na; simp at na, hs⟩
  | _, _, _, .dig h q _ z, r, n => by
    have n' : (flK _ && noLstK _) = true := n
    rw [Bool.and_eq_true] at n'
    cases q with
    | nil => exact absurd rfl z
    | cons g _ _ _ _ =>
      have f := n'.1
      unfold flK at f
      rw [List.all_cons, Bool.and_eq_true] at f
      cases g <;> exact absurd f.1 Bool.false_ne_true
  | _, _, _, .ins _ _ _, _, n => by cases n
theorem DqAll.sys (hS : SysK X.K) (I : Inv X pins σ H s) : ∀ {vs : List V} {ds : List PyData} {us : List Value}, DqAll K H vs ds → Vals vs us → noLstA ds = true → ∃ as, ReadsAll s.heap us ds as ∧ sysModules ∉ as
  | _, _, _, .nil, r, _ => by cases r; exact ⟨_, .nil, by simp⟩
  | _, _, _, .cons h q, r, n => by
    rw [noLstA, Bool.and_eq_true] at n
    cases r with
    | cons r1 r2 =>
      obtain ⟨as, q1, s1⟩ := Dq.sys hS I h r1 n.1
      obtain ⟨bs, q2, s2⟩ := DqAll.sys hS I q r2 n.2
      exact ⟨_, .cons q1 q2, by rw [List.mem_append, not_or]; exact ⟨s1, s2⟩⟩
theorem DqKv.sys (hS : SysK X.K) (I : Inv X pins σ H s) : ∀ {ws : List (Key × V)} {kvs : List (PyData × PyData)} {us : List (Key × Value)}, DqKv K H ws kvs → KV ws us → noLstK kvs = true → ∃ bs, PyProof.V.PairsRead s.heap kD us kvs bs ∧ sysModules ∉ bs
  | _, _, _, .nil, r, _ => by cases r; exact ⟨_, .nil, by simp⟩
  | _, _, _, .cons h q, r, n => by
    rw [noLstK, Bool.and_eq_true] at n
    cases r with
    | cons r1 r2 =>
      obtain ⟨k', v'⟩ := ‹Key × Value›
      obtain ⟨e, r1⟩ := r1
      cases e
      obtain ⟨as, q1, s1⟩ := Dq.sys hS I h r1 n.1
      obtain ⟨bs, q2, s2⟩ := DqKv.sys hS I q r2 n.2
      exact ⟨_, .cons q1 q2, by rw [List.mem_append, not_or]; exact ⟨s1, s2⟩⟩
end
/-- what can be shown -/
def shw (d : PyData) : Bool := d.showable && (!d.hasDict || noLst d) && decide (d.shown.length ≤ sizeLine) && decide (d.depth ≤ 60)
def fRepr (d : PyData) : Option Rv := if shw d then some (.d (.str d.shown)) else none
def rRepr : List V → Hp → VK → Prop := fun vs H Q => ∃ (K : Kw) (v : V) (d : PyData), vs = [v] ∧ Dq K H v d ∧ shw d = true ∧ Q (.str d.shown) H
theorem cr_repr (hS : SysK X.K) (hu : X.A.units + 64 < cLine) (hg : X.A.guards = some []) : CallR X (.builtin "repr") rRepr := by
  intro pins s σ H vs us Q I r h
  obtain ⟨K, v, d, rfl, hd, hs, q⟩ := h
  obtain ⟨u, rfl, ru⟩ := vals1 r
  unfold shw at hs
  simp only [Bool.and_eq_true, Bool.or_eq_true, decide_eq_true_eq, Bool.not_eq_true'] at hs
  obtain ⟨⟨⟨h1, h2⟩, h3⟩, h4⟩ := hs
  obtain ⟨as, hr, hm⟩ : ∃ as, Reads s.heap u d as ∧ (d.hasDict = true → sysModules ∉ as) := by
    rcases h2 with h2 | h2
    · obtain ⟨as, hr⟩ := hd.reads I ru h2
      exact ⟨as, hr, fun z => by rw [h2] at z; cases z⟩
    · obtain ⟨as, hr, hz⟩ := hd.sys hS I ru h2
      exact ⟨as, hr, fun _ => hz⟩
  have go : ∀ a, u = Value.ref a → wpAny (model X.prog X.w) X.A (call (.builtin "repr") [u]) (EP X pins σ Q) X.xe s := fun a e => by
    subst e
    exact PySem.repr_of_reads' hr h1 hm hg (by omega) (fun _ _ e => e) (fun h' t tk hk => ⟨.str d.shown, H, I.kept hk, ⟨t, rfl⟩, q⟩) h3
  cases hd with
  | non => cases ru; exact PySem.P.repr_of_none ⟨.str "None", H, I.tok _, ⟨_, rfl⟩, by simpa [PyData.shown] using q⟩
  | bl b => cases ru; exact PySem.P.repr_of_bool ⟨.str (if b then "True" else "False"), H, I.tok _, ⟨_, rfl⟩, by simpa [PyData.shown] using q⟩
  | int i =>
    obtain ⟨t, rfl⟩ := ru
    exact PySem.P.repr_of_int (by simpa [PyData.showable] using h1) ⟨.str (toString i), H, I.tok _, ⟨_, rfl⟩, by simpa [PyData.shown] using q⟩
  | str x =>
    obtain ⟨t, rfl⟩ := ru
    exact PySem.P.repr_of_str ⟨.str (reprText x), H, I.tok _, ⟨_, rfl⟩, by simpa [PyData.shown] using q⟩ (by simpa [PyData.shown] using h3)
  | lst _ _ => exact go _ ru
  | tup _ _ => exact go _ ru
  | dic _ _ => exact go _ ru
  | dig _ _ _ _ => exact go _ ru
  | ins _ _ _ => exact go _ ru
theorem fRepr_ok : CallOk C rRepr (g1 fRepr) := g1_ok fun d res v μ F H st Q s w e p => by
  unfold fRepr at e
  split at e
  · cases e; exact ⟨C.K, v, d, rfl, w.dq s.sub, by assumption, fin_d s p (.str _)⟩
  · cases e
end
end Cp
/-! Cp5: statements. -/
namespace Cp
open PySem L2
/-- how a statement ends -/
inductive RS where
  | nx (ρ : En) (s : Sto)
  | bk (ρ : En) (s : Sto)
  | ct (ρ : En) (s : Sto)
  | rt (r : Rv) (s : Sto)
  | er (e : Er) (s : Sto)
  | no
abbrev Sv := En → Sto → RS
def gN (C : Cn) (P : St → Hp → Prop) (ρ : En) (st : Sto) (μ : Mu) (F H : Hp) : Prop := ∀ σ' μ' F' H', Ext μ F H μ' F' H' → SR C.K μ' F' H' st → Eok C.K F' μ' ρ σ' → P σ' H'
def PostS (C : Cn) (D : Ends) (μ : Mu) (F H : Hp) : RS → Prop
  | .nx ρ s => gN C D.nx ρ s μ F H
  | .bk ρ s => gN C D.bk ρ s μ F H
  | .ct ρ s => gN C D.ct ρ s μ F H
  | .rt r s => gE C D.rt r s μ F H
  | .er e s => Erw C μ F H e s
  | .no => False
def tS (C : Cn) (m : Sv) : TS := fun D σ H => At C σ H fun ρ st μ F => PostS (C.at σ) D μ F H (m ρ st)
section
variable {X : Cx} {C : Cn} {Q : VK} {μ μ1 : Mu} {F H F1 H1 : Hp} {st : Sto} {e a b c : Expr} {m ma mb mc : Ev} {pos p : Pos} {es : List Expr} {D : Ends} {s t : Stmt} {ss : List Stmt} {sa sb : Sv}
theorem gN.later {P : St → Hp → Prop} {ρ : En} (x : Ext μ F H μ1 F1 H1) (h : gN C P ρ st μ F H) : gN C P ρ st μ1 F1 H1 := fun σ' μ' F' H' y s k => h σ' μ' F' H' (x.trans y) s k
theorem PostS.later {r : RS} (x : Ext μ F H μ1 F1 H1) (h : PostS C D μ F H r) : PostS C D μ1 F1 H1 r := by
  cases r with
  | nx ρ s => exact gN.later x h
  | bk ρ s => exact gN.later x h
  | ct ρ s => exact gN.later x h
  | rt r s => exact gE_lat.it x h
  | er e s => exact Erw.later x h
  | no => exact h
theorem _root_.L2.PS.imp {t' u : TS} (h : PS X s t') (w : ∀ D σ H, u D σ H → t' D σ H) : PS X s u := ⟨fun pins s σ H D I h' => h.run pins s σ H D I (w D σ H h')⟩
theorem _root_.L2.PSs.imp {t' u : TS} (h : PSs X ss t') (w : ∀ D σ H, u D σ H → t' D σ H) : PSs X ss u := ⟨fun pins s σ H D I h' => h.run pins s σ H D I (w D σ H h')⟩
/-- what a sub-meaning gives, then a statement's rest -/
@[reducible] def Res.toS {α : Type} (r : Res α) (k : α → Sto → RS) : RS := match r with
  | .ok a s => k a s
  | .er e s => .er e s
  | .no => .no
theorem PostS.bindV {m : Res Vl} {k : Vl → Sto → RS} {Q : VK} (h : PostS C D μ F H (m.toS k))
    (hk : ∀ x s v μ1 F1 H1, Ext μ F H μ1 F1 H1 → SR C.K μ1 F1 H1 s → Vok C.K F1 μ1 x v → PostS C D μ1 F1 H1 (k x s) → Q v H1) : PostV C Q μ F H m := by
  cases m with
  | ok x s => exact fun v μ1 F1 H1 e s1 o => hk x s v μ1 F1 H1 e s1 o (PostS.later e h)
  | er e s => exact h
  | no => exact h
theorem PostS.bindE {m : Res Rv} {k : Rv → Sto → RS} {Q : VK} (h : PostS C D μ F H (m.toS k))
    (hk : ∀ x s v μ1 F1 H1, Out C.K μ F H s x v μ1 F1 H1 → PostS C D μ F H (k x s) → Q v H1) : PostE C Q μ F H m := by
  cases m with
  | ok x s => exact fun v μ1 F1 H1 o => hk x s v μ1 F1 H1 o h
  | er e s => exact h
  | no => exact h
theorem PostS.bindB {m : Res Bool} {k : Bool → Sto → RS} {Q : Bool → Hp → Prop} (h : PostS C D μ F H (m.toS k))
    (hk : ∀ x s μ1 F1 H1, Ext μ F H μ1 F1 H1 → SR C.K μ1 F1 H1 s → PostS C D μ1 F1 H1 (k x s) → Q x H1) : PostB C Q μ F H m := by
  cases m with
  | ok x s => exact fun μ1 F1 H1 e s1 => hk x s μ1 F1 H1 e s1 (PostS.later e h)
  | er e s => exact h
  | no => exact h
theorem PostS.bindA {m : Res (List Vl)} {k : List Vl → Sto → RS} {Q : List V → Hp → Prop} (h : PostS C D μ F H (m.toS k))
    (hk : ∀ x s v μ1 F1 H1, Ext μ F H μ1 F1 H1 → SR C.K μ1 F1 H1 s → VokAll C.K F1 μ1 x v → PostS C D μ1 F1 H1 (k x s) → Q v H1) : PostA C Q μ F H m := by
  cases m with
  | ok x s => exact fun v μ1 F1 H1 e s1 o => hk x s v μ1 F1 H1 e s1 o (PostS.later e h)
  | er e s => exact h
  | no => exact h
theorem Erw.flat {σ σ' : St} (fl : C.Flat) {e : Er} {st : Sto} (h : Erw (C.at σ) μ F H e st) : Erw (C.at σ') μ F H e st := fun cls dd μ' F' H' x s o => fl _ _ _ _ _ (h cls dd μ' F' H' x s o)
theorem PostS.flat {σ σ' : St} (fl : C.Flat) {r : RS} (h : PostS (C.at σ) D μ F H r) : PostS (C.at σ') D μ F H r := by
  cases r with
  | er e s => exact Erw.flat fl h
  | nx ρ s => exact h
  | bk ρ s => exact h
  | ct ρ s => exact h
  | rt r s => exact h
  | no => exact h
/-! ### blocks -/
def sNil : Sv := fun ρ st => .nx ρ st
def sSeq (x y : Sv) : Sv := fun ρ st => match x ρ st with
  | .nx ρ' s => y ρ' s
  | r => r
theorem x_nil : PSs X [] (tS C sNil) := pss_nil.imp fun D σ H ⟨ρ, st, μ, F, h1, h2, h3⟩ => h3 σ μ F H Ext.refl h2 h1
theorem x_cons (ha : PS X s (tS C sa)) (hb : PSs X ss (tS C sb)) (fl : C.Flat := by exact fun _ _ _ _ _ h => h) : PSs X (s :: ss) (tS C (sSeq sa sb)) := (pss_cons ha hb).imp fun D σ H ⟨ρ, st, μ, F, h1, h2, h3⟩ => ⟨ρ, st, μ, F, h1, h2, by
  show PostS (C.at σ) { D with nx := tS C sb D } μ F H (sa ρ st)
  simp only [sSeq] at h3
  cases q : sa ρ st with
  | nx ρ' s' =>
    simp only [q] at h3
    exact fun σ' μ' F' H' x r k => ⟨ρ', s', μ', F', k, r, PostS.flat fl (PostS.later x h3)⟩
  | bk ρ' s' => simp only [q] at h3; exact h3
  | ct ρ' s' => simp only [q] at h3; exact h3
  | rt r s' => simp only [q] at h3; exact h3
  | er r s' => simp only [q] at h3; exact h3
  | no => simp only [q] at h3; exact h3⟩
theorem x_one (ha : PS X s (tS C sa)) : PSs X [s] (tS C sa) := pss_one ha
theorem x_no : PSs X ss (tS C fun _ _ => .no) := ⟨fun pins s σ H D I ⟨ρ, st, μ, F, h1, h2, h3⟩ => False.elim h3⟩
def sExp (m : Ev) : Sv := fun ρ st => (m ρ st).toS fun _ s => .nx ρ s
theorem x_expr (h : PE X e (tM C m)) (hs : swapsWith e none pos.line X.env = pure false := by rfl) : PS X (.Expr e pos) (tS C (sExp m)) := (ps_expr h hs).imp fun D σ H ⟨ρ, st, μ, F, h1, h2, h3⟩ =>
  ⟨ρ, st, μ, F, h1, h2, PostS.bindE h3 fun x s v μ1 F1 H1 o h4 => h4 σ μ1 F1 H1 o.ext o.sr (h1.ext o.ext)⟩
def sRet (m : Ev) : Sv := fun ρ st => (m ρ st).toS fun r s => .rt r s
theorem x_ret (h : PE X e (tM C m)) : PS X (.Return (some e) pos) (tS C (sRet m)) := (ps_ret h).imp fun D σ H ⟨ρ, st, μ, F, h1, h2, h3⟩ => ⟨ρ, st, μ, F, h1, h2, PostS.bindE h3 fun x s v μ1 F1 H1 o h4 => h4 v μ1 F1 H1 o⟩
def sRetN : Sv := fun _ st => .rt (.d .none) st
def sIf (c : En → Sto → Res Bool) (x y : Sv) : Sv := fun ρ st => (c ρ st).toS fun k s => if k = true then x ρ s else y ρ s
theorem x_if {bc : En → Sto → Res Bool} {A B : List Stmt} (hc : PT X c (tT C bc)) (ha : PSs X A (tS C sa)) (hb : PSs X B (tS C sb)) : PS X (.If c A B pos) (tS C (sIf bc sa sb)) := (ps_if hc ha hb).imp fun D σ H ⟨ρ, st, μ, F, h1, h2, h3⟩ =>
  ⟨ρ, st, μ, F, h1, h2, PostS.bindB h3 fun k s μ1 F1 H1 x r h4 => by
    cases k with
    | true => simp only [if_true] at h4 ⊢; exact ⟨ρ, s, μ1, F1, h1.ext x, r, h4⟩
    | false => simp only [Bool.false_eq_true, if_false] at h4 ⊢; exact ⟨ρ, s, μ1, F1, h1.ext x, r, h4⟩⟩
/-! ### targets: where a value goes; the slots ws alone change -/
def Agr (ws : List Nat) (σ σ' : St) : Prop := σ'.length = σ.length ∧ ∀ j, j ∉ ws → σ'[j]? = σ[j]?
abbrev Gm := Vl → En → Sto → Res En
abbrev gG (C : Cn) (ws : List Nat) (σ : St) (P : St → Hp → Prop) : En → Sto → Mu → Hp → Hp → Prop := fun ρ st μ F H => ∀ σ' μ' F' H', Ext μ F H μ' F' H' → SR C.K μ' F' H' st → Eok C.K F' μ' ρ σ' → Agr ws σ σ' → P σ' H'
theorem gG_lat {ws : List Nat} {σ : St} {P : St → Hp → Prop} : Lat (gG C ws σ P) := ⟨fun x h σ' μ' F' H' y s k => h σ' μ' F' H' (x.trans y) s k⟩
def tG (C : Cn) (ws : List Nat) (g : Gm) : TG := fun v σ H P => ∃ ρ st μ F x, Eok C.K F μ ρ σ ∧ SR C.K μ F H st ∧ Vok C.K F μ x v ∧ Post (C.at σ) (gG C ws σ P) μ F H (g x ρ st)
theorem _root_.L2.PG.imp {tg : Expr} {t u : TG} (h : PG X tg t) (w : ∀ v σ H Q, u v σ H Q → t v σ H Q) : PG X tg u := ⟨fun pins s σ H v u Q I r h' => h.run pins s σ H v u Q I r (w v σ H Q h')⟩
def gNm (i : Nat) : Gm := fun x ρ st => .ok (ρ.set i (some x)) st
theorem eok_set {K : Kw} {ρ : En} {σ : St} {i : Nat} {x : Vl} {v : V} (h : Eok K F μ ρ σ) (k : Vok K F μ x v) : Eok K F μ (ρ.set i (some x)) (σ.set i (some v)) := by
  refine ⟨by simp [h.1], fun j y e => ?_⟩
  by_cases hj : i = j
  · subst hj
    have hi : i < ρ.length := by
      have := (List.getElem?_eq_some_iff.mp e).1
      simpa using this
    rw [List.getElem?_set_self hi] at e
    cases e
    exact ⟨v, by rw [List.getElem?_set_self (by rw [← h.1]; exact hi)], k⟩
  · rw [List.getElem?_set_ne hj] at e
    obtain ⟨w, h1, h2⟩ := h.2 j y e
    exact ⟨w, by rw [List.getElem?_set_ne hj]; exact h1, h2⟩
theorem agr_set {i : Nat} {σ : St} {v : Option V} : Agr [i] σ (σ.set i v) := ⟨by simp, fun j h => List.getElem?_set_ne (fun e => h (by simp [e]))⟩
theorem t_name {i : Nat} {tg : Expr} (h : PG X tg (gName i)) : PG X tg (tG C [i] (gNm i)) := h.imp fun v σ H Q ⟨ρ, st, μ, F, x, h1, h2, h3, h4⟩ => h4 _ μ F H Ext.refl h2 (eok_set h1 h3) agr_set
/-- several, from a tuple -/
abbrev Gms := List PyData → En → Sto → Res En
def gNil9 : Gms := fun ds ρ st => match ds with
  | [] => .ok ρ st
  | _ :: _ => .no
def gCons9 (g : Gm) (r : Gms) : Gms := fun ds ρ st => match ds with
  | [] => .no
  | d :: ds => (g (.d d) ρ st).bind fun ρ' s => r ds ρ' s
def tGs (C : Cn) (ws : List Nat) (g : Gms) : TGs := fun vs σ H P => ∃ ρ st μ F ds, Eok C.K F μ ρ σ ∧ SR C.K μ F H st ∧ DqAll C.K F vs ds ∧ Post (C.at σ) (gG C ws σ P) μ F H (g ds ρ st)
theorem _root_.L2.PGs.imp {tg : List Expr} {t u : TGs} (h : PGs X tg t) (w : ∀ v σ H Q, u v σ H Q → t v σ H Q) : PGs X tg u := ⟨fun pins s σ H v u Q I r h' => h.run pins s σ H v u Q I r (w v σ H Q h')⟩
theorem t_nil : PGs X [] (tGs C [] gNil9) := pgs_nil.imp fun v σ H Q ⟨ρ, st, μ, F, ds, h1, h2, h3, h4⟩ => by
  cases h3 with
  | nil => exact ⟨rfl, h4 σ μ F H Ext.refl h2 h1 ⟨rfl, fun _ _ => rfl⟩⟩
  | cons _ _ => exact False.elim h4
theorem t_cons {tg : Expr} {tgs : List Expr} {ws ws' : List Nat} {g : Gm} {r : Gms} (h : PG X tg (tG C ws g)) (hr : PGs X tgs (tGs C ws' r)) (hs : (assignEach (tg :: tgs) X.env).map (·.2) = assign tg X.env :: (assignEach tgs X.env).map (·.2) := by rfl) (fl : C.Flat := by exact fun _ _ _ _ _ h => h) :
    PGs X (tg :: tgs) (tGs C (ws ++ ws') (gCons9 g r)) := (pgs_cons h hr hs).imp fun v σ H Q ⟨ρ, st, μ, F, ds, h1, h2, h3, h4⟩ => by
  cases h3 with
  | nil => exact False.elim h4
  | @cons v' vs' d' ds' k kr =>
    refine ⟨_, _, rfl, ρ, st, μ, F, .d d', h1, h2, k, ?_⟩
    have h4 : Post (C.at σ) (gG C (ws ++ ws') σ Q) μ F H ((g (.d d') ρ st).bind fun ρ' s => r ds' ρ' s) := h4
    cases q : g (.d d') ρ st with
    | no => rw [q] at h4; exact h4
    | er e s => rw [q] at h4; exact h4
    | ok ρ1 s1 =>
      rw [q] at h4
      intro σ1 μ1 F1 H1 x1 r1 k1 a1
      refine ⟨ρ1, s1, μ1, F1, ds', k1, r1, kr.same x1.same, ?_⟩
      have h5 := Post.later gG_lat x1 (show Post (C.at σ) (gG C (ws ++ ws') σ Q) μ F H (r ds' ρ1 s1) from h4)
      have wk : ∀ {ρ' s'}, gG C (ws ++ ws') σ Q ρ' s' μ1 F1 H1 → gG C ws' σ1 Q ρ' s' μ1 F1 H1 := fun {ρ' s'} z σ2 μ2 F2 H2 x2 r2 k2 a2 => z σ2 μ2 F2 H2 x2 r2 k2 ⟨a2.1.trans a1.1, fun j hj => by
        rw [List.mem_append, not_or] at hj
        rw [a2.2 j hj.2, a1.2 j hj.1]⟩
      cases q2 : r ds' ρ1 s1 with
      | no => rw [q2] at h5; exact h5
      | er e s => rw [q2] at h5; exact Erw.flat fl h5
      | ok ρ2 s2 => rw [q2] at h5; exact wk h5
def gTp (n : Nat) (r : Gms) : Gm := fun x ρ st => match x with
  | .d (.tuple ds) => if ds.length = n then r ds ρ st else .no
  | _ => .no
theorem t_tup {k : Nat} {ws : List Nat} {r : Gms} {n : Nat} (hc : X.calm = true) (h : PGs X es (tGs C ws r)) (hn : (assignEach es X.env).length = n := by rfl) (hst : (assignEach es X.env).findIdx? (·.1) = none := by rfl) : PG X (.Tuple es k pos) (tG C ws (gTp n r)) :=
  (pg_tup hc h hn hst).imp fun v σ H Q ⟨ρ, st, μ, F, x, h1, h2, h3, h4⟩ => by
    cases x with
    | c i => exact False.elim h4
    | s i => exact False.elim h4
    | o i => exact False.elim h4
    | d x =>
      cases x with
      | tuple ds =>
        cases (show Dq C.K F v (.tuple ds) from h3) with
        | tup q1 q2 =>
          simp only [gTp] at h4
          split at h4
          · rename_i hl
            exact ⟨_, _, rfl, SqT.rd h2.sub q1, by rw [q2.length]; exact hl, ρ, st, μ, F, ds, h1, h2, q2, h4⟩
          · exact False.elim h4
      | _ => exact False.elim h4
/-- a list's place -/
def gPl (mo mi : Ev) : Gm := fun x ρ st => match x with
  | .d d => (mV mo ρ st).bind fun o s1 => (mV mi ρ s1).bind fun i s2 => match o, i with
    | .c k, .d (.int j) => match s2[k]? with
      | some (.l xs) => match ixN xs.length j with
        | some n => .ok ρ (s2.set k (.l (xs.set n d)))
        | none => .no
      | _ => .no
    | _, _ => .no
  | _ => .no
theorem t_pl {o i : Expr} {mo mi : Ev} (ho : PE X o (tM C mo)) (hi : PE X i (tM C mi))
    (ha : ∀ v, assign (.Subscript o i pos) X.env v = (do
      let ov ← holding [v] (eval o X.env)
      let iv ← holding [v, ov] (eval i X.env)
      standAt pos
      holding [v, ov, iv] (setItem ov iv v)
      release [v, ov, iv] []) := by intro _; rfl) : PG X (.Subscript o i pos) (tG C [] (gPl mo mi)) :=
  (pg_sub (pv_frz ho) (pv_frz hi) set_list ha).imp fun v σ H Q ⟨ρ, st, μ, F, x, h1, h2, h3, h4⟩ => by
    cases x with
    | c i => exact False.elim h4
    | s i => exact False.elim h4
    | o i => exact False.elim h4
    | d d =>
      have h4 : Post (C.at σ) (gG C [] σ Q) μ F H ((mV mo ρ st).bind fun o s1 => (mV mi ρ s1).bind fun i s2 => match o, i with
        | .c k, .d (.int j) => match s2[k]? with
          | some (.l xs) => match ixN xs.length j with
            | some n => .ok ρ (s2.set k (.l (xs.set n d)))
            | none => .no
          | _ => .no
        | _, _ => .no) := h4
      refine ⟨ρ, st, μ, F, h1, h2, Post.bindV gG_lat h4 fun o s1 vo μ1 F1 H1 x1 r1 k1 h5 => ⟨ρ, s1, μ1, F1, h1.ext x1, r1, Post.bindV gG_lat h5 fun i s2 vi μ2 F2 H2 x2 r2 k2 h6 => ?_⟩⟩
      have k1 := k1.ext x2
      cases o with
      | d _ => exact False.elim h6
      | s _ => exact False.elim h6
      | o _ => exact False.elim h6
      | c k =>
        cases i with
        | c _ => exact False.elim h6
        | s _ => exact False.elim h6
        | o _ => exact False.elim h6
        | d i =>
          cases i with
          | int j =>
            cases q : s2[k]? with
            | none => simp only [q] at h6; exact False.elim h6
            | some cl =>
              cases cl with
              | m _ => simp only [q] at h6; exact False.elim h6
              | l xs =>
                cases q2 : ixN xs.length j with
                | none => simp only [q, q2] at h6; exact False.elim h6
                | some n =>
                  simp only [q, q2] at h6
                  obtain ⟨p, hp, rfl⟩ := k1
                  obtain ⟨p', o', g1, g2, ys, rfl, g3⟩ := r2.cell k _ q
                  rw [hp] at g1; cases g1
                  cases (show Dq C.K F2 vi (.int j) from k2)
                  have dv : Dq C.K F2 v d := Dq.same (x1.trans x2).same h3
                  obtain ⟨w1, w2⟩ := r2.write (c := .l (xs.set n d)) (o := .lst (ys.set n v)) hp ⟨_, rfl, g3.set dv n⟩ q
                  exact ⟨p, ys, j, n, rfl, rfl, g2, by rw [g3.length]; exact q2, h6 σ μ2 F2 _ w2 w1 (((h1.ext x1).ext x2).ext w2) ⟨rfl, fun _ _ => rfl⟩⟩
          | _ => exact False.elim h6
/-- target = value -/
def sAsg (g : Gm) (mv : En → Sto → Res Vl) : Sv := fun ρ st => (mv ρ st).toS fun x s => (g x ρ s).toS fun ρ' s' => .nx ρ' s'
theorem x_asg {tg : Expr} {ws : List Nat} {g : Gm} {mv : En → Sto → Res Vl} (he : PE X e (tV C mv)) (hg : PG X tg (tG C ws g)) (hs : swapsWithSole [tg] e pos.line X.env = pure false := by rfl) (hw : swappedStores [tg] e X.env = pure none := by rfl)
    (h1 : (assignEach [tg] X.env).map (·.2) = [assign tg X.env] := by rfl) : PS X (.Assign [tg] e pos) (tS C (sAsg g mv)) := (ps_asg he hg hs hw h1).imp fun D σ H ⟨ρ, st, μ, F, h1, h2, h3⟩ =>
  ⟨ρ, st, μ, F, h1, h2, PostS.bindV h3 fun x s v μ1 F1 H1 x1 r1 k1 h4 => ⟨ρ, s, μ1, F1, x, h1.ext x1, r1, k1, by
    cases q : g x ρ s with
    | no => rw [q] at h4; exact h4
    | er e' s' => rw [q] at h4; exact h4
    | ok ρ' s' => rw [q] at h4; exact fun σ' μ' F' H' y r k _ => h4 σ' μ' F' H' y r k⟩⟩
/-- two, three names at once -/
def sPar (is : List Nat) (ma : En → Sto → Res (List Vl)) : Sv := fun ρ st => (ma ρ st).toS fun xs s => match is, xs with
  | [i, j], [x, y] => .nx ((ρ.set i (some x)).set j (some y)) s
  | [i, j, l], [x, y, z] => .nx (((ρ.set i (some x)).set j (some y)).set l (some z)) s
  | _, _ => .no
variable {mas : En → Sto → Res (List Vl)}
theorem x_par {i j : Nat} (h : PS X s (tPar i j (tAs C mas))) : PS X s (tS C (sPar [i, j] mas)) := h.imp fun D σ H ⟨ρ, st, μ, F, h1, h2, h3⟩ => ⟨ρ, st, μ, F, h1, h2, PostS.bindA h3 fun xs s vs μ1 F1 H1 x1 r1 k1 h4 => by
  match xs, k1, h4 with
  | [], _, h4 => exact False.elim h4
  | [_], _, h4 => exact False.elim h4
  | [x, y], k1, h4 =>
    obtain ⟨v, u, rfl, hv, hu⟩ := k1.two
    exact ⟨v, u, rfl, h4 _ μ1 F1 H1 Ext.refl r1 (eok_set (eok_set (h1.ext x1) hv) hu)⟩
  | _ :: _ :: _ :: _, _, h4 => exact False.elim h4⟩
theorem x_par3 {i j l : Nat} (h : PS X s (tPar3 i j l (tAs C mas))) : PS X s (tS C (sPar [i, j, l] mas)) := h.imp fun D σ H ⟨ρ, st, μ, F, h1, h2, h3⟩ => ⟨ρ, st, μ, F, h1, h2, PostS.bindA h3 fun xs s vs μ1 F1 H1 x1 r1 k1 h4 => by
  match xs, k1, h4 with
  | [], _, h4 => exact False.elim h4
  | [_], _, h4 => exact False.elim h4
  | [_, _], _, h4 => exact False.elim h4
  | [x, y, z], k1, h4 =>
    cases k1 with
    | cons hv k2 =>
      obtain ⟨v, u, rfl, hu, hw⟩ := k2.two
      exact ⟨_, v, u, rfl, h4 _ μ1 F1 H1 Ext.refl r1 (eok_set (eok_set (eok_set (h1.ext x1) hv) hu) hw)⟩
  | _ :: _ :: _ :: _ :: _, _, h4 => exact False.elim h4⟩
end
end Cp
/-! Cp6: lists that change, what is walked, for, while, comprehensions. -/
namespace Cp
open PySem L2
section
variable {X : Cx} {C : Cn} {Q : VK} {μ μ1 : Mu} {F H F1 H1 : Hp} {st : Sto} {e a b c o tg iter : Expr} {m mo ma mb mc : Ev} {pos p apos cpos : Pos} {es : List Expr} {D : Ends} {s t : Stmt} {ss body : List Stmt} {sa sb : Sv}
/-! ### methods of a list that changes -/
def lstAt (s : Sto) (x : Vl) : Option (List PyData) := match x with
  | .c k => match s[k]? with
    | some (.l xs) => some xs
    | _ => none
  | _ => none
theorem lstAt_get {k : Nat} {xs : List PyData} (e : lstAt st (.c k) = some xs) : st[k]? = some (.l xs) := by
  simp only [lstAt] at e
  split at e
  · rename_i h; cases e; exact h
  · cases e
theorem lstAt_ok {K : Kw} {x : Vl} {v : V} {xs : List PyData} (s : SR K μ F H st) (k : Vok K F μ x v) (e : lstAt st x = some xs) : ∃ i p ys, x = .c i ∧ v = .ref p ∧ μ.l[i]? = some p ∧ H p = some (.lst ys) ∧ DqAll K F ys xs := by
  cases x with
  | d _ => cases e
  | s _ => cases e
  | o _ => cases e
  | c i =>
    obtain ⟨p, hp, rfl⟩ := k
    simp only [lstAt] at e
    cases q : st[i]? with
    | none => simp only [q] at e; cases e
    | some cl =>
      cases cl with
      | m _ => simp only [q] at e; cases e
      | l zs =>
        simp only [q] at e; cases e
        obtain ⟨p', o', g1, g2, ys, rfl, g3⟩ := s.cell i _ q
        rw [hp] at g1; cases g1
        exact ⟨i, p, ys, rfl, rfl, hp, g2, g3⟩
def fApp (xs : List PyData) (d : PyData) : Option (List PyData) := if xs.length < sizeLine then some (xs ++ [d]) else none
def fExt (xs : List PyData) (d : PyData) : Option (List PyData) := match d with
  | .list ys => if xs.length + ys.length ≤ sizeLine then some (xs ++ ys) else none
  | _ => none
/-- x.append(e): e is data (a cell would be shared) -/
def mApp (mo ma : Ev) : Ev := fun ρ st => (mV mo ρ st).bind fun x s1 => match lstAt s1 x with
  | none => .no
  | some _ => (mV ma ρ s1).bind fun y s2 => match x, lstAt s2 x, y with
    | .c k, some xs, .d d => match fApp xs d with
      | some zs => .ok (.d .none) (s2.set k (.l zs))
      | none => .no
    | _, _, _ => .no
theorem s_app (h : PE X e (tBM X.K "list" rAppend (tV C (mV mo)) (tCons (tV C (mV ma)) tNil))) : PE X e (tM C (mApp mo ma)) :=
  h.imp fun σ H Q ⟨ρ, st, μ, F, h1, h2, h3⟩ => ⟨ρ, st, μ, F, h1, h2, Post.bindV gE_lat h3 fun x s v μ1 F1 H1 x1 r1 k1 h4 => by
    cases q : lstAt s x with
    | none => simp only [q] at h4; exact False.elim h4
    | some zs =>
      simp only [q] at h4
      obtain ⟨i, pp, ys, rfl, rfl, g1, g2, g3⟩ := lstAt_ok r1 k1 q
      refine ⟨.inl ⟨rfl, _, SqL.of g2⟩, ρ, s, μ1, F1, h1.ext x1, r1, Post.bindV gE_lat h4 fun y s2 u μ2 F2 H2 x2 r2 k2 h5 => ?_⟩
      have k1' := k1.ext x2
      cases q2 : lstAt s2 (.c i) with
      | none => simp only [q2] at h5; exact False.elim h5
      | some ws =>
        cases y with
        | c _ => simp only [q2] at h5; exact False.elim h5
        | s _ => simp only [q2] at h5; exact False.elim h5
        | o _ => simp only [q2] at h5; exact False.elim h5
        | d d =>
          obtain ⟨i', pp', ys', e1, e2, g1', g2', g3'⟩ := lstAt_ok r2 k1' q2
          cases e1
          cases e2
          simp only [q2, fApp] at h5
          split at h5
          · rename_i zz hz
            split at hz
            · cases hz
              obtain ⟨w1, w2⟩ := r2.write (c := .l (ws ++ [d])) (o := .lst (ys' ++ [u])) g1' ⟨_, rfl, g3'.app (.cons k2 .nil)⟩ (lstAt_get q2)
              exact ⟨_, _, _, rfl, rfl, g2', by rw [g3'.length]; assumption, h5 .non _ _ _ ⟨w2, w1, .non, fun _ z => nomatch z⟩⟩
            · cases hz
          · exact False.elim h5⟩
def mExt (mo ma : Ev) : Ev := fun ρ st => (mV mo ρ st).bind fun x s1 => match lstAt s1 x with
  | none => .no
  | some _ => (mV ma ρ s1).bind fun y s2 => match x, lstAt s2 x, view s2 y with
    | .c k, some xs, some d => match fExt xs d with
      | some zs => .ok (.d .none) (s2.set k (.l zs))
      | none => .no
    | _, _, _ => .no
theorem s_ext (h : PE X e (tBM X.K "list" rExtend (tV C (mV mo)) (tCons (tV C (mV ma)) tNil))) : PE X e (tM C (mExt mo ma)) :=
  h.imp fun σ H Q ⟨ρ, st, μ, F, h1, h2, h3⟩ => ⟨ρ, st, μ, F, h1, h2, Post.bindV gE_lat h3 fun x s v μ1 F1 H1 x1 r1 k1 h4 => by
    cases q : lstAt s x with
    | none => simp only [q] at h4; exact False.elim h4
    | some zs =>
      simp only [q] at h4
      obtain ⟨i, pp, ys, rfl, rfl, g1, g2, g3⟩ := lstAt_ok r1 k1 q
      refine ⟨.inl ⟨rfl, _, SqL.of g2⟩, ρ, s, μ1, F1, h1.ext x1, r1, Post.bindV gE_lat h4 fun y s2 u μ2 F2 H2 x2 r2 k2 h5 => ?_⟩
      have k1' := k1.ext x2
      cases q2 : lstAt s2 (.c i) with
      | none => simp only [q2] at h5; exact False.elim h5
      | some ws =>
        cases q3 : view s2 y with
        | none => simp only [q2, q3] at h5; exact False.elim h5
        | some d =>
          obtain ⟨i', pp', ys', e1, e2, g1', g2', g3'⟩ := lstAt_ok r2 k1' q2
          cases e1
          cases e2
          have vw := view_ok r2 k2 q3
          cases d with
          | list ds =>
            obtain ⟨pb, zs', rfl, b1, b2⟩ := vw
            simp only [q2, q3, fExt] at h5
            split at h5
            · rename_i zz hz
              split at hz
              · cases hz
                obtain ⟨w1, w2⟩ := r2.write (c := .l (ws ++ ds)) (o := .lst (ys' ++ zs')) g1' ⟨_, rfl, g3'.app b2⟩ (lstAt_get q2)
                exact ⟨_, _, _, _, rfl, rfl, g2', b1, by rw [g3'.length, b2.length]; assumption, h5 .non _ _ _ ⟨w2, w1, .non, fun _ z => nomatch z⟩⟩
              · cases hz
            · exact False.elim h5
          | _ => simp only [q2, q3, fExt] at h5; exact False.elim h5⟩
def mPop (mo : Ev) : Ev := fun ρ st => (mV mo ρ st).bind fun x s1 => match x, lstAt s1 x with
  | .c k, some xs => match xs[xs.length - 1]? with
    | some d => .ok (.d d) (s1.set k (.l xs.dropLast))
    | none => .no
  | _, _ => .no
theorem DqAll.dropLast {K : Kw} {vs : List V} {ds : List PyData} (h : DqAll K F vs ds) : DqAll K F vs.dropLast ds.dropLast := by
  rw [List.dropLast_eq_take, List.dropLast_eq_take, h.length]
  exact h.take _
theorem s_pop (h : PE X e (tBM0 X.K "list" rPop (tV C (mV mo)))) : PE X e (tM C (mPop mo)) :=
  h.imp fun σ H Q ⟨ρ, st, μ, F, h1, h2, h3⟩ => ⟨ρ, st, μ, F, h1, h2, Post.bindV gE_lat h3 fun x s v μ1 F1 H1 x1 r1 k1 h4 => by
    cases q : lstAt s x with
    | none => cases x <;> (simp only [q] at h4; exact False.elim h4)
    | some zs =>
      obtain ⟨i, pp, ys, rfl, rfl, g1, g2, g3⟩ := lstAt_ok r1 k1 q
      simp only [q] at h4
      cases q2 : zs[zs.length - 1]? with
      | none => simp only [q2] at h4; exact False.elim h4
      | some d =>
        simp only [q2] at h4
        obtain ⟨v', g4, g5⟩ := g3.get q2
        obtain ⟨w1, w2⟩ := r1.write (c := .l zs.dropLast) (o := .lst ys.dropLast) g1 ⟨_, rfl, g3.dropLast⟩ (lstAt_get q)
        exact ⟨.inl ⟨rfl, _, SqL.of g2⟩, _, _, _, rfl, rfl, g2, by rw [g3.length]; exact g4, h4 v' _ _ _ ⟨w2, w1, g5, fun _ z => nomatch z⟩⟩⟩
/-! ### what is walked -/
def Grd (g : Option (Nat × List PyData)) (ds : List PyData) (st : Sto) : Prop := match g with
  | none => True
  | some k => st[k.1]? = some (.l k.2)
/-- what data and cells lean on stands -/
structure Sx (μ : Mu) (F : Hp) (μ' : Mu) (F' : Hp) : Prop where
  same : Same F F'
  pre : ∃ r, μ'.l = μ.l ++ r
  preη : ∃ r, μ'.η = μ.η ++ r
theorem Ext.sx (x : Ext μ F H μ1 F1 H1) : Sx μ F μ1 F1 := ⟨x.same, x.pre, x.preη⟩
theorem Sx.refl : Sx μ F μ F := ⟨Same.refl F, ⟨[], by simp⟩, ⟨[], by simp⟩⟩
theorem Sx.trans {μ2 : Mu} {F2 : Hp} (x : Sx μ F μ1 F1) (y : Sx μ1 F1 μ2 F2) : Sx μ F μ2 F2 := by
  obtain ⟨r, e⟩ := x.pre
  obtain ⟨r', e'⟩ := y.pre
  obtain ⟨q, k⟩ := x.preη
  obtain ⟨q', k'⟩ := y.preη
  exact ⟨x.same.trans y.same, ⟨r ++ r', by rw [e', e, List.append_assoc]⟩, ⟨q ++ q', by rw [k', k, List.append_assoc]⟩⟩
theorem Sx.get (a : Sx μ F μ1 F1) {i : Nat} {x : Addr} (h : μ.l[i]? = some x) : μ1.l[i]? = some x := by
  obtain ⟨r, e⟩ := a.pre
  rw [e, List.getElem?_append_left (List.getElem?_eq_some_iff.mp h).1]
  exact h
/-- the thing J walks the data ds, while what stood stands (and the cell g holds them still) -/
structure Wk (KK : Kw) (J : It) (ds : List PyData) (g : Option (Nat × List PyData)) (μ : Mu) (F : Hp) : Prop where
  go : ∀ (i : Nat) (μ1 : Mu) (F1 H1 : Hp) (st1 : Sto) (d : PyData), Sx μ F μ1 F1 → SR KK μ1 F1 H1 st1 → Grd g ds st1 → ds[i]? = some d →
    J.go i H1 ∧ ∀ x H2, J.yld i H1 x H2 → ∃ F2, Ext μ1 F1 H1 μ1 F2 H2 ∧ SR KK μ1 F2 H2 st1 ∧ Dq KK F2 x d
  stop : ∀ (μ1 : Mu) (F1 H1 : Hp) (st1 : Sto), Sx μ F μ1 F1 → SR KK μ1 F1 H1 st1 → Grd g ds st1 → J.stop ds.length H1
abbrev Src := List PyData × Option (Nat × List PyData)
abbrev gW (C : Cn) (R : It → Hp → Prop) : Src → Sto → Mu → Hp → Hp → Prop := fun dg st μ F H => ∀ J μ' F' H', Ext μ F H μ' F' H' → SR C.K μ' F' H' st → Wk C.K J dg.1 dg.2 μ' F' → R J H'
theorem gW_lat {R : It → Hp → Prop} : Lat (gW C R) := ⟨fun x h J μ' F' H' y s w => h J μ' F' H' (x.trans y) s w⟩
def tI (C : Cn) (mi : En → Sto → Res Src) : TI := fun σ H R => At C σ H fun ρ st μ F => Post (C.at σ) (gW C R) μ F H (mi ρ st)
theorem _root_.L2.PI.imp {t u : TI} (h : PI X tg iter t) (w : ∀ σ H R, u σ H R → t σ H R) : PI X tg iter u := ⟨fun pins s σ H R I h' => h.run pins s σ H R I (w σ H R h')⟩
/-- a list, a tuple, a text -/
def iSeq (K : PySem.W.Frag) (te : TE) : TI := fun σ H R => te σ H fun v H1 => (∃ q xs, v = .ref q ∧ SqL K H1 q xs ∧ R (Itl K q) H1) ∨ (∃ q xs, v = .ref q ∧ SqT K H1 q xs ∧ R (Itt K q) H1) ∨ ∃ z, v = .str z ∧ R (Its z) H1
theorem pi_seq {te : TE} (h : PE X e te) : PI X tg e (iSeq X.K te) := by
  refine ⟨fun pins s σ H R I hw => thn (h.run pins s σ H _ I hw) fun u s1 ⟨v, H1, I1, rv, q⟩ => ?_⟩
  rcases q with ⟨q, xs, rfl, hq, hr⟩ | ⟨q, xs, rfl, hq, hr⟩ | ⟨z, rfl, hr⟩
  · obtain ⟨its, r2, pl, _⟩ := I1.list hq
    cases rv
    exact PySem.wpAny_pyIter_list pl.isList (pi_one (tk := s1.toks) I1 _ (turn_list q _) ⟨_, Heap.get?_push_size _ rfl, rfl, rfl⟩ hr)
  · obtain ⟨its, r2, pl, _⟩ := I1.tuple hq
    cases rv
    exact PySem.wpAny_pyIter_tuple (show s1.heap.IsTuple q its.toArray from pl) (pi_one (tk := s1.toks) I1 _ (turn_tuple q _) ⟨_, Heap.get?_push_size _ rfl, rfl, rfl⟩ hr)
  · obtain ⟨t, rfl⟩ := rv
    cases hw : z.cps.all (· < 128)
    · exact wpAny_pyIter_wide hw (pi_one (tk := s1.toks) I1 _ (turn_str _ z t "str_iterator" (.inr rfl)) ⟨_, Heap.get?_push_size _ rfl, rfl, rfl⟩ hr)
    · exact wpAny_pyIter_ascii hw (pi_one (tk := s1.toks) I1 _ (turn_str _ z t "str_ascii_iterator" (.inl rfl)) ⟨_, Heap.get?_push_size _ rfl, rfl, rfl⟩ hr)
def signs (z : Str) : List PyData := z.cps.toList.map fun c => .str ⟨#[c]⟩
def srcOf (s : Sto) (x : Vl) : Option Src := match x with
  | .c k => match s[k]? with
    | some (.l xs) => some (xs, some (k, xs))
    | _ => none
  | .d (.list xs) => some (xs, none)
  | .d (.tuple xs) => some (xs, none)
  | .d (.str z) => some (signs z, none)
  | .o (.tp xs) => some (xs, none)
  | _ => none
def okO {α : Type} (o : Option α) (s : Sto) : Res α := match o with
  | some k => .ok k s
  | none => .no
def iOf (m : Ev) : En → Sto → Res Src := fun ρ st => (mV m ρ st).bind fun x s => okO (srcOf s x) s
theorem wk_list {K : PySem.W.Frag} {q : Addr} {ds : List PyData} {g : Option (Nat × List PyData)} (hx : ∀ μ1 F1 H1 st1, Sx μ F μ1 F1 → SR C.K μ1 F1 H1 st1 → Grd g ds st1 → ∃ ys, H1 q = some (.lst ys) ∧ DqAll C.K F1 ys ds) : Wk C.K (Itl K q) ds g μ F := by
  refine ⟨fun i μ1 F1 H1 st1 d x1 r1 k1 e => ?_, fun μ1 F1 H1 st1 x1 r1 k1 => ?_⟩
  · obtain ⟨ys, g1, g2⟩ := hx μ1 F1 H1 st1 x1 r1 k1
    obtain ⟨v, g3, g4⟩ := g2.get e
    refine ⟨⟨ys, v, SqL.of g1, g3⟩, fun x H2 ⟨e1, e2⟩ => ?_⟩
    subst e1
    have := e2 ys (SqL.of g1)
    rw [g3] at this
    cases this
    exact ⟨F1, Ext.refl, r1, g4⟩
  · obtain ⟨ys, g1, g2⟩ := hx μ1 F1 H1 st1 x1 r1 k1
    exact ⟨ys, SqL.of g1, Nat.le_of_eq g2.length⟩
theorem wk_tup {K : PySem.W.Frag} {xs : List V} {q : Addr} {ds : List PyData} {g : Option (Nat × List PyData)} (h1 : Rd F q (.tup xs)) (h2 : DqAll C.K F xs ds) : Wk C.K (Itt K q) ds g μ F := by
  refine ⟨fun i μ1 F1 H1 st1 d x1 r1 k1 e => ?_, fun μ1 F1 H1 st1 x1 r1 k1 => ?_⟩
  · have g1 : SqT K H1 q xs := SqT.rd r1.sub (same_rd x1.same h1)
    obtain ⟨v, g3, g4⟩ := (h2.same x1.same).get e
    refine ⟨⟨xs, v, g1, g3⟩, fun x H2 ⟨e1, e2⟩ => ?_⟩
    subst e1
    have := e2 xs (g1)
    rw [g3] at this
    cases this
    exact ⟨F1, Ext.refl, r1, g4⟩
  · exact ⟨xs, SqT.rd r1.sub (same_rd x1.same h1), Nat.le_of_eq h2.length⟩
theorem wk_str {z : Str} {g : Option (Nat × List PyData)} : Wk C.K (Its z) (signs z) g μ F := by
  refine ⟨fun i μ1 F1 H1 st1 d x1 r1 k1 e => ?_, fun μ1 F1 H1 st1 x1 r1 k1 => ?_⟩
  · unfold signs at e
    rw [List.getElem?_map] at e
    obtain ⟨cc, h1, rfl⟩ := Option.map_eq_some_iff.mp e
    rw [Array.getElem?_toList] at h1
    refine ⟨(Array.getElem?_eq_some_iff.mp h1).1, fun x H2 ⟨e1, c', e2, e3⟩ => ?_⟩
    subst e1 e3
    rw [h1] at e2; cases e2
    exact ⟨F1, Ext.refl, r1, .str _⟩
  · show z.cps.size ≤ (signs z).length
    unfold signs
    rw [List.length_map, Array.length_toList]
    exact Nat.le_refl _
theorem i_seq (h : PE X e (tM C m)) : PI X tg e (tI C (iOf m)) := (pi_seq (pv_frz h)).imp fun σ H R ⟨ρ, st, μ, F, h1, h2, h3⟩ => ⟨ρ, st, μ, F, h1, h2, Post.bindV gW_lat h3 fun x s v μ1 F1 H1 x1 r1 k1 h4 => by
  cases x with
  | s _ => exact False.elim h4
  | o y =>
    cases y with
    | tp xs =>
      obtain ⟨a, ys, o, rfl, q1, _, q2⟩ := k1
      exact .inr (.inl ⟨_, _, rfl, SqT.rd r1.sub (.inr ⟨o, q1⟩), h4 _ μ1 F1 H1 Ext.refl r1 (wk_tup (.inr ⟨o, q1⟩) q2)⟩)
    | _ => exact False.elim h4
  | c k =>
    cases q : s[k]? with
    | none => simp only [srcOf, q, okO] at h4; exact False.elim h4
    | some cl =>
      cases cl with
      | m _ => simp only [srcOf, q, okO] at h4; exact False.elim h4
      | l xs =>
        simp only [srcOf, q, okO] at h4
        obtain ⟨pp, hp, rfl⟩ := k1
        obtain ⟨p', o', g1, g2, ys, rfl, g3⟩ := r1.cell k _ q
        rw [hp] at g1; cases g1
        refine .inl ⟨pp, ys, rfl, SqL.of g2, h4 _ μ1 F1 H1 Ext.refl r1 (wk_list fun μ2 F2 H2 st2 x2 r2 k2 => ?_)⟩
        obtain ⟨p2, o2, e1, e2, zs, rfl, e3⟩ := r2.cell k _ k2
        rw [x2.get hp] at e1; cases e1
        exact ⟨zs, e2, e3⟩
  | d x =>
    cases x with
    | list xs =>
      cases (show Dq C.K F1 v (.list xs) from k1) with
      | lst q1 q2 => exact .inl ⟨_, _, rfl, SqL.of (r1.sub _ _ q1), h4 _ μ1 F1 H1 Ext.refl r1 (wk_list fun μ2 F2 H2 st2 x2 r2 k2 => ⟨_, r2.sub _ _ (x2.same _ _ q1), q2.same x2.same⟩)⟩
    | tuple xs =>
      cases (show Dq C.K F1 v (.tuple xs) from k1) with
      | tup q1 q2 => exact .inr (.inl ⟨_, _, rfl, SqT.rd r1.sub q1, h4 _ μ1 F1 H1 Ext.refl r1 (wk_tup q1 q2)⟩)
    | str z =>
      cases (show Dq C.K F1 v (.str z) from k1)
      exact .inr (.inr ⟨z, rfl, h4 _ μ1 F1 H1 Ext.refl r1 wk_str⟩)
    | _ => exact False.elim h4⟩
/-- range -/
def rngD (lo hi : Int) : List PyData := (List.range (hi - lo).toNat).map fun i => .int (lo + (i : Nat))
theorem wk_rng {lo : Int} {n : Nat} {g : Option (Nat × List PyData)} : Wk C.K (Itr lo n) ((List.range n).map fun i => .int (lo + (i : Nat))) g μ F := by
  refine ⟨fun i μ1 F1 H1 st1 d x1 r1 k1 e => ?_, fun μ1 F1 H1 st1 x1 r1 k1 => ?_⟩
  · rw [List.getElem?_map] at e
    obtain ⟨cc, h1, rfl⟩ := Option.map_eq_some_iff.mp e
    obtain ⟨hl, he⟩ := List.getElem?_eq_some_iff.mp h1
    rw [List.getElem_range] at he
    subst he
    rw [List.length_range] at hl
    refine ⟨hl, fun x H2 ⟨e1, e2⟩ => ?_⟩
    subst e1 e2
    exact ⟨F1, Ext.refl, r1, .int _⟩
  · show n ≤ _
    rw [List.length_map, List.length_range]
    exact Nat.le_refl _
def rOk (i j : Int) : Bool := decide (-(2 ^ 62) ≤ i) && decide (i < 2 ^ 62) && decide (-(2 ^ 62) ≤ j) && decide (j < 2 ^ 62)
def oneI (xs : List Vl) : Option Int := match xs with
  | [.d (.int j)] => some j
  | _ => none
def twoI (xs : List Vl) : Option (Int × Int) := match xs with
  | [.d (.int i), .d (.int j)] => some (i, j)
  | _ => none
theorem oneI_ok {K : Kw} {xs : List Vl} {vs : List V} {j : Int} (k : VokAll K F μ xs vs) (e : oneI xs = some j) : vs = [.int j] := by
  unfold oneI at e
  split at e
  · cases e
    obtain ⟨v, rfl, hv⟩ := k.one
    cases (show Dq K F v (.int j) from hv)
    rfl
  · cases e
def iRg1 (mas : En → Sto → Res (List Vl)) : En → Sto → Res Src := fun ρ st => (mas ρ st).bind fun xs s => match oneI xs with
  | some j => if rOk 0 j = true then .ok (rngD 0 j, none) s else .no
  | none => .no
def iRg2 (mas : En → Sto → Res (List Vl)) : En → Sto → Res Src := fun ρ st => (mas ρ st).bind fun xs s => match twoI xs with
  | some ij => if rOk ij.1 ij.2 = true then .ok (rngD ij.1 ij.2, none) s else .no
  | none => .no
variable {mas : En → Sto → Res (List Vl)}
theorem rOk_of {i j : Int} (h : rOk i j = true) : -(2 ^ 62) ≤ i ∧ i < 2 ^ 62 ∧ -(2 ^ 62) ≤ j ∧ j < 2 ^ 62 := by
  unfold rOk at h
  simp only [Bool.and_eq_true, decide_eq_true_eq] at h
  exact ⟨h.1.1.1, h.1.1.2, h.1.2, h.2⟩
theorem i_rng1 (hg : Gl X "range") (hm : X.mg "range" = none) (ha : PA X [a] (tAs C mas)) (hs : starEach [a] X.env = [(false, eval a X.env)] := by rfl) : PI X tg (.Call (.Name "range" p) [a] [] pos) (tI C (iRg1 mas)) :=
  (pi_range1 hg hm ha hs).imp fun σ H R ⟨ρ, st, μ, F, h1, h2, h3⟩ => ⟨ρ, st, μ, F, h1, h2, Post.bindA gW_lat h3 fun xs s vs μ1 F1 H1 x1 r1 k1 h4 => by
    cases q : oneI xs with
    | none => simp only [q] at h4; exact False.elim h4
    | some j =>
      simp only [q] at h4
      by_cases hr : rOk 0 j = true
      · rw [if_pos hr] at h4
        obtain ⟨_, _, q1, q2⟩ := rOk_of hr
        refine ⟨j, oneI_ok k1 q, q1, q2, h4 _ μ1 F1 H1 Ext.refl r1 ?_⟩
        show Wk C.K (Itr 0 j.toNat) (rngD 0 j) none μ1 F1
        unfold rngD
        rw [Int.sub_zero]
        exact wk_rng
      · rw [if_neg hr] at h4
        exact False.elim h4⟩
/-- list(range(..)) -/
def mLr (mi : En → Sto → Res (Int × Int)) : Ev := fun ρ st => (mi ρ st).bind fun ij s => if rOk ij.1 ij.2 = true ∧ (ij.2 - ij.1).toNat ≤ 2 ^ 24 then .ok (.n (.l (rngD ij.1 ij.2))) s else .no
end
end Cp
/-! Cp7: for, while, comprehensions. -/
namespace Cp
open PySem L2
section
variable {X : Cx} {C : Cn} {Q : VK} {μ μ1 : Mu} {F H F1 H1 : Hp} {st : Sto} {e a b c o tg iter : Expr} {m mo ma mb mc : Ev} {pos p apos cpos : Pos} {es : List Expr} {D : Ends} {s t : Stmt} {ss body : List Stmt} {sa sb : Sv}
/-! ### for -/
open Classical in
noncomputable def forGo (g : Gm) (b : Sv) (gd : Option (Nat × List PyData)) (all : List PyData) : List PyData → En → Sto → RS
  | [], ρ, st => if Grd gd all st then .nx ρ st else .no
  | d :: r, ρ, st => if Grd gd all st then (g (.d d) ρ st).toS fun ρ1 s1 => match b ρ1 s1 with
      | .nx ρ2 s2 => forGo g b gd all r ρ2 s2
      | .ct ρ2 s2 => forGo g b gd all r ρ2 s2
      | .bk ρ2 s2 => .nx ρ2 s2
      | .rt v s2 => .rt v s2
      | .er x s2 => .er x s2
      | .no => .no
    else .no
noncomputable def sFor (mi : En → Sto → Res Src) (g : Gm) (b : Sv) : Sv := fun ρ st => (mi ρ st).toS fun dg s => forGo g b dg.2 dg.1 dg.1 ρ s
theorem PostS.bindI {m : Res Src} {k : Src → Sto → RS} {R : It → Hp → Prop} (h : PostS C D μ F H (m.toS k))
    (hk : ∀ x s J μ1 F1 H1, Ext μ F H μ1 F1 H1 → SR C.K μ1 F1 H1 s → Wk C.K J x.1 x.2 μ1 F1 → PostS C D μ1 F1 H1 (k x s) → R J H1) : Post C (gW C R) μ F H m := by
  cases m with
  | ok x s => exact fun J μ1 F1 H1 e s1 w => hk x s J μ1 F1 H1 e s1 w (PostS.later e h)
  | er e s => exact h
  | no => exact h
theorem PostS.bindG {m : Res En} {k : En → Sto → RS} {ws : List Nat} {σ : St} {P : St → Hp → Prop} (h : PostS C D μ F H (m.toS k))
    (hk : ∀ ρ s σ' μ1 F1 H1, Ext μ F H μ1 F1 H1 → SR C.K μ1 F1 H1 s → Eok C.K F1 μ1 ρ σ' → Agr ws σ σ' → PostS C D μ1 F1 H1 (k ρ s) → P σ' H1) : Post C (gG C ws σ P) μ F H m := by
  cases m with
  | ok x s => exact fun σ' μ1 F1 H1 e s1 k1 a => hk x s σ' μ1 F1 H1 e s1 k1 a (PostS.later e h)
  | er e s => exact h
  | no => exact h
theorem drop_cons {α : Type} : ∀ {l : List α} {i : Nat} (h : i < l.length), ∃ d, l[i]? = some d ∧ l.drop i = d :: l.drop (i + 1)
  | x :: l, 0, _ => ⟨x, rfl, rfl⟩
  | x :: l, i + 1, h => by
    obtain ⟨d, h1, h2⟩ := drop_cons (l := l) (i := i) (by simpa using h)
    exact ⟨d, by simpa using h1, by simpa using h2⟩
theorem x_for {mi : En → Sto → Res Src} {ws : List Nat} {g : Gm} (hp : PassesOwn (model X.prog X.w) X.A X.env X.xe) (hc : X.calm = true) (hi : PI X tg iter (tI C mi)) (hg : PG X tg (tG C ws g)) (hb : PSs X body (tS C sb))
    (hs : ∀ x, foldedSetIterable iter X.env x = pure x := by intro _; rfl) (fl : C.Flat := by exact fun _ _ _ _ _ h => h) : PS X (.For tg iter body [] pos) (tS C (sFor mi g sb)) := (ps_for hp hc hi hg hb hs).imp fun D σ0 H ⟨ρ, st, μ, F, h1, h2, h3⟩ => by
  refine ⟨ρ, st, μ, F, h1, h2, PostS.bindI h3 fun dg s J μ' F' Hs x0 r0 wk h4 => ?_⟩
  obtain ⟨ds, gd⟩ := dg
  refine ⟨fun i m σ H => m = ds.length - i ∧ i ≤ ds.length ∧ ∃ ρ1 st1 μ1 F1, Ext μ' F' Hs μ1 F1 H ∧ SR C.K μ1 F1 H st1 ∧ Eok C.K F1 μ1 ρ1 σ ∧ PostS (C.at σ0) D μ1 F1 H (forGo g sb gd ds (ds.drop i) ρ1 st1),
    ⟨ds.length, rfl, Nat.zero_le _, ρ, s, μ', F', Ext.refl, r0, h1.ext x0, h4⟩, ?_⟩
  rintro i m σ H ⟨rfl, hi, ρ1, st1, μ1, F1, x1, r1, k1, h5⟩
  by_cases hl : i < ds.length
  · obtain ⟨d, e1, e2⟩ := drop_cons hl
    rw [e2] at h5
    unfold forGo at h5
    by_cases hgd : Grd gd ds st1
    · rw [if_pos hgd] at h5
      obtain ⟨go, step⟩ := wk.go i μ1 F1 H st1 d x1.sx r1 hgd e1
      refine .inr ⟨go, fun σ' H' => ∃ ρ2 st2 μ2 F2, Ext μ' F' Hs μ2 F2 H' ∧ SR C.K μ2 F2 H' st2 ∧ Eok C.K F2 μ2 ρ2 σ' ∧ PostS (C.at σ0) D μ2 F2 H' (forGo g sb gd ds (ds.drop (i + 1)) ρ2 st2),
        fun σ' H' hn => ⟨ds.length - (i + 1), by omega, rfl, hl, hn⟩, fun x H2 y => ?_⟩
      obtain ⟨F2, x2, r2, kd⟩ := step x H2 y
      refine ⟨ρ1, st1, μ1, F2, .d d, k1.ext x2, r2, kd, PostS.bindG (C := C.at σ) (PostS.flat fl (PostS.later x2 h5)) fun ρ2 s2 σ2 μ3 F3 H3 x3 r3 k3 ag h6 => ⟨ρ2, s2, μ3, F3, k3, r3, ?_⟩⟩
      have h6 := PostS.flat (σ' := σ2) fl h6
      show PostS (C.at σ2) _ μ3 F3 H3 (sb ρ2 s2)
      cases q : sb ρ2 s2 with
      | nx ρ4 s4 => simp only [q] at h6; exact fun σ4 μ4 F4 H4 x4 r4 k4 => ⟨ρ4, s4, μ4, F4, ((x1.trans x2).trans x3).trans x4, r4, k4, PostS.flat fl (PostS.later x4 h6)⟩
      | ct ρ4 s4 => simp only [q] at h6; exact fun σ4 μ4 F4 H4 x4 r4 k4 => ⟨ρ4, s4, μ4, F4, ((x1.trans x2).trans x3).trans x4, r4, k4, PostS.flat fl (PostS.later x4 h6)⟩
      | bk ρ4 s4 => simp only [q] at h6; exact h6
      | rt v s4 => simp only [q] at h6; exact h6
      | er v s4 => simp only [q] at h6; exact h6
      | no => simp only [q] at h6; exact h6
    · rw [if_neg hgd] at h5; exact False.elim h5
  · have e : i = ds.length := by omega
    subst e
    rw [List.drop_length] at h5
    unfold forGo at h5
    by_cases hgd : Grd gd ds st1
    · rw [if_pos hgd] at h5
      exact .inl ⟨wk.stop μ1 F1 H st1 x1.sx r1 hgd, h5 σ μ1 F1 H Ext.refl r1 k1⟩
    · rw [if_neg hgd] at h5; exact False.elim h5
/-! ### while: at most n turns -/
def whGo (c : En → Sto → Res Bool) (b : Sv) : Nat → Sv
  | 0, _, _ => .no
  | n + 1, ρ, st => (c ρ st).toS fun k s => if k = true then (match b ρ s with
      | .nx ρ2 s2 => whGo c b n ρ2 s2
      | .ct ρ2 s2 => whGo c b n ρ2 s2
      | .bk ρ2 s2 => .nx ρ2 s2
      | .rt v s2 => .rt v s2
      | .er x s2 => .er x s2
      | .no => .no) else .nx ρ s
theorem x_while {bc : En → Sto → Res Bool} (n : Nat) (hp : PassesOwn (model X.prog X.w) X.A X.env X.xe) (hc : PT X c (tT C bc)) (hb : PSs X body (tS C sb)) (fl : C.Flat := by exact fun _ _ _ _ _ h => h) : PS X (.While c body [] pos) (tS C (whGo bc sb n)) := (ps_while hp hc hb).imp fun D σ0 H ⟨ρ, st, μ, F, h1, h2, h3⟩ => by
  refine ⟨fun m σ' H' => ∃ ρ1 st1 μ1 F1, SR C.K μ1 F1 H' st1 ∧ Eok C.K F1 μ1 ρ1 σ' ∧ PostS (C.at σ0) D μ1 F1 H' (whGo bc sb m ρ1 st1), ⟨n, ρ, st, μ, F, h2, h1, h3⟩, ?_⟩
  rintro m σ1 H1 ⟨ρ1, st1, μ1, F1, r1, k1, h4⟩
  cases m with
  | zero => exact False.elim h4
  | succ m =>
    unfold whGo at h4
    refine ⟨ρ1, st1, μ1, F1, k1, r1, PostS.bindB (C := C.at σ1) (PostS.flat fl h4) fun k s2 μ2 F2 H2 x2 r2 h5 => ?_⟩
    cases k with
    | false => simp only [Bool.false_eq_true, if_false] at h5 ⊢; exact h5 σ1 μ2 F2 H2 Ext.refl r2 (k1.ext x2)
    | true =>
      simp only [if_true] at h5 ⊢
      refine ⟨fun σ' H' => ∃ ρ1 st1 μ1 F1, SR C.K μ1 F1 H' st1 ∧ Eok C.K F1 μ1 ρ1 σ' ∧ PostS (C.at σ0) D μ1 F1 H' (whGo bc sb m ρ1 st1), fun σ' H' hn => ⟨m, Nat.lt_succ_self _, hn⟩, ρ1, s2, μ2, F2, k1.ext x2, r2, ?_⟩
      show PostS (C.at σ1) _ μ2 F2 H2 (sb ρ1 s2)
      cases q : sb ρ1 s2 with
      | nx ρ4 s4 => simp only [q] at h5; exact fun σ4 μ4 F4 H4 x4 r4 k4 => ⟨ρ4, s4, μ4, F4, r4, k4, PostS.flat fl (PostS.later x4 h5)⟩
      | ct ρ4 s4 => simp only [q] at h5; exact fun σ4 μ4 F4 H4 x4 r4 k4 => ⟨ρ4, s4, μ4, F4, r4, k4, PostS.flat fl (PostS.later x4 h5)⟩
      | bk ρ4 s4 => simp only [q] at h5; exact h5
      | rt v s4 => simp only [q] at h5; exact h5
      | er v s4 => simp only [q] at h5; exact h5
      | no => simp only [q] at h5; exact h5
/-! ### comprehensions -/
def wipeE (ρ : En) : List Nat → En
  | [] => ρ
  | v :: vs => (wipeE ρ vs).set v none
theorem wipeE_len (ρ : En) : ∀ vs : List Nat, (wipeE ρ vs).length = ρ.length
  | [] => rfl
  | v :: vs => by unfold wipeE; rw [List.length_set, wipeE_len ρ vs]
theorem eok_wipe {K : Kw} {ρ : En} {σ : St} (h : Eok K F μ ρ σ) : ∀ vs : List Nat, Eok K F μ (wipeE ρ vs) (wipe σ vs)
  | [] => h
  | v :: vs => by
    have ih := eok_wipe h vs
    refine ⟨by rw [wipeE_len, wipe_length]; exact h.1, fun j y e => ?_⟩
    unfold wipeE at e
    unfold wipe
    by_cases hj : v = j
    · subst hj
      by_cases hv : v < (wipeE ρ vs).length
      · rw [List.getElem?_set_self hv] at e; cases e
      · rw [List.getElem?_eq_none (by simpa using hv)] at e; cases e
    · rw [List.getElem?_set_ne hj] at e
      obtain ⟨w, h1, h2⟩ := ih.2 j y e
      exact ⟨w, by rw [List.getElem?_set_ne hj]; exact h1, h2⟩
theorem wipe_agr {σ σ' : St} {ws vs : List Nat} (a : Agr ws (wipe σ vs) σ') (hv : ∀ i, i ∈ ws → i ∈ vs) : wipe σ' vs = wipe σ vs := by
  have key : ∀ {τ : St} {us : List Nat} {j : Nat}, (wipe τ us)[j]? = if j ∈ us then (if j < τ.length then some none else none) else τ[j]? := by
    intro τ us
    induction us with
    | nil => intro j; simp [wipe]
    | cons u us ih =>
      intro j
      unfold wipe
      by_cases hj : u = j
      · subst hj
        rw [if_pos (by simp)]
        by_cases hl : u < τ.length
        · rw [List.getElem?_set_self (by rw [wipe_length]; exact hl), if_pos hl]
        · rw [List.getElem?_eq_none (by rw [List.length_set, wipe_length]; omega), if_neg hl]
      · rw [List.getElem?_set_ne hj, ih]
        by_cases hm : j ∈ us
        · rw [if_pos hm, if_pos (List.mem_cons_of_mem u hm)]
        · rw [if_neg hm, if_neg (fun z => (List.mem_cons.mp z).elim (fun e => hj e.symm) hm)]
  have hl : σ'.length = σ.length := by rw [a.1, wipe_length]
  apply List.ext_getElem?
  intro j
  rw [key, key, hl]
  by_cases hm : j ∈ vs
  · rw [if_pos hm, if_pos hm]
  · rw [if_neg hm, if_neg hm, a.2 j (fun z => hm (hv j z)), key, if_neg hm]
/-- within a comprehension no error leaves -/
def Cn.quiet (C : Cn) : Cn := { C with W := fun _ _ _ _ => False }
open Classical in
noncomputable def lcGo (g : Gm) (tt : En → Sto → Res Bool) (te : Ev) (gd : Option (Nat × List PyData)) (all : List PyData) (ρ : En) : List PyData → Sto → List PyData → Res (List PyData)
  | [], st, acc => if Grd gd all st then .ok acc st else .no
  | d :: r, st, acc => if Grd gd all st then (match g (.d d) ρ st with
      | .ok ρ1 s1 => match tt ρ1 s1 with
        | .ok true s2 => match mV te ρ1 s2 with
          | .ok (.d y) s3 => if acc.length < sizeLine then lcGo g tt te gd all ρ r s3 (acc ++ [y]) else .no
          | _ => .no
        | .ok false s2 => lcGo g tt te gd all ρ r s2 acc
        | _ => .no
      | _ => .no) else .no
noncomputable def mLc (mi : En → Sto → Res Src) (g : Gm) (tt : En → Sto → Res Bool) (te : Ev) (vs : List Nat) : Ev := fun ρ st => (mi ρ st).bind fun dg s => (lcGo g tt te dg.2 dg.1 (wipeE ρ vs) dg.1 s []).bind fun ys s' => .ok (.n (.l ys)) s'
theorem Post.bindI {β : Type} {G : β → Sto → Mu → Hp → Hp → Prop} (gl : Lat G) {m : Res Src} {k : Src → Sto → Res β} {R : It → Hp → Prop} (h : Post C G μ F H (m.bind k))
    (hk : ∀ x s J μ1 F1 H1, Ext μ F H μ1 F1 H1 → SR C.K μ1 F1 H1 s → Wk C.K J x.1 x.2 μ1 F1 → Post C G μ1 F1 H1 (k x s) → R J H1) : Post C (gW C R) μ F H m := by
  cases m with
  | ok x s => exact fun J μ1 F1 H1 e s1 w => hk x s J μ1 F1 H1 e s1 w (Post.later gl e h)
  | er e s => exact h
  | no => exact h
/-- the new list at L within: an object of nobody's is written -/
theorem SR.out {K : Kw} (s : SR K μ F H st) {L : Addr} {u : HO} (hF : F L = none) (hm : L ∉ μ) : SR K μ F (upd H L u) st := by
  refine ⟨s.nd, s.len, s.sep, fun b o h => ?_, fun i c i0 h => ?_, s.obs_kept fun j a hj o ho => ?_⟩
  · rw [upd_ne (fun z => by subst z; rw [hF] at h; cases h)]; exact s.sub b o h
  · obtain ⟨p, o, h1, h2, h3⟩ := s.cell0 i c i0 h
    refine ⟨p, o, h1, ?_, h3⟩
    rw [upd_ne (fun z => ?_)]; exact h2
    subst z
    exact hm (Mu.mem_l h1 i0)
  · rw [upd_ne (fun z => by subst z; exact hm (Mu.mem_η hj))]; exact ho
theorem Ext.out (x : Ext μ F H μ1 F1 H1) {L : Addr} {u : HO} (h0 : H L = none) (h1 : H1 L ≠ none ∨ True) : Ext μ F H μ1 F1 (upd H1 L u) := by
  refine ⟨x.same, x.pre, x.preη, fun b o h n => ?_, fun b h => ?_, x.nF, x.nC⟩
  · rw [upd_ne (fun z => by subst z; rw [h0] at h; cases h)]; exact x.fr b o h n
  · by_cases e : b = L
    · subst e; exact h0
    · rw [upd_ne e] at h; exact x.dom b h
/-- what is in nobody's hands stays so -/
theorem Ext.keepOut {L : Addr} {u : HO} (x : Ext μ F H μ1 F1 H1) (h : H L = some u) (hF : F L = none) (hm : L ∉ μ) : H1 L = some u ∧ F1 L = none ∧ L ∉ μ1 := by
  refine ⟨x.fr L u h hm, ?_, fun z => ?_⟩
  · cases q : F1 L with
    | none => rfl
    | some o =>
      rcases x.nF L o q with z | z | z
      · rw [hF] at z; cases z
      · rw [h] at z; cases z
      · exact absurd z hm
  · rcases x.nC L z with z | z
    · exact hm z
    · rw [h] at z; cases z
abbrev Blk (X : Cx) (scope : Scope) (J : Cx → Prop) : Prop := ∀ (s : Shared) (H : Hp) (A : Addr) (cl : List (Str × Addr)) (fp : List Addr), J (X.blk s H scope (compEnvC scope cl A X.env) fp)
/-- the state within a comprehension's loop: the list L so far -/
structure LcI (C : Cn) (μ' : Mu) (F' H' : Hp) (L : Addr) (ρ : En) (σ : St) (acc : List PyData) (H : Hp) (st : Sto) (μ1 : Mu) (F1 : Hp) : Prop where
  x : Ext μ' F' H' μ1 F1 H
  r : SR C.K μ1 F1 H st
  k : Eok C.K F1 μ1 ρ σ
  l : ∃ xs, H L = some (.lst xs) ∧ DqAll C.K F1 xs acc
  f : F1 L = none
  m : L ∉ μ1
theorem LcI.later {C : Cn} {μ' : Mu} {F' H' : Hp} {L : Addr} {ρ : En} {σ : St} {acc : List PyData} {μ2 : Mu} {F2 H2 : Hp} {st2 : Sto} (i : LcI C μ' F' H' L ρ σ acc H st μ1 F1) (x : Ext μ1 F1 H μ2 F2 H2) (r : SR C.K μ2 F2 H2 st2) : LcI C μ' F' H' L ρ σ acc H2 st2 μ2 F2 := by
  obtain ⟨xs, h1, h2⟩ := i.l
  obtain ⟨k1, k2, k3⟩ := x.keepOut h1 i.f i.m
  exact ⟨i.x.trans x, r, i.k.ext x, ⟨xs, k1, h2.same x.same⟩, k2, k3⟩
theorem LcI.put {C : Cn} {μ' : Mu} {F' H' : Hp} {L : Addr} {ρ : En} {σ : St} {acc : List PyData} {y : PyData} {v : V} (h0 : H' L = none) (i : LcI C μ' F' H' L ρ σ acc H st μ1 F1) (hv : Dq C.K F1 v y) :
    ∃ xs, H L = some (.lst xs) ∧ xs.length = acc.length ∧ LcI C μ' F' H' L ρ σ (acc ++ [y]) (upd H L (.lst (xs ++ [v]))) st μ1 F1 := by
  obtain ⟨xs, h1, h2⟩ := i.l
  exact ⟨xs, h1, h2.length, i.x.out h0 (.inr trivial), i.r.out i.f i.m, i.k, ⟨_, upd_same, h2.app (.cons hv .nil)⟩, i.f, i.m⟩
theorem s_lcT {scope : Scope} {own : List (Str × Nat)} {mi : En → Sto → Res Src} {ws : List Nat} {g : Gm} {tt : En → Sto → Res Bool} {te : Ev} (hws : ∀ i, i ∈ ws → i ∈ own.map (·.2)) (σ : St) (H : Hp) (Q : VK) (h : tM C (mLc mi g tt te (own.map (·.2))) σ H Q) :
    tLc (tI C mi) (tG C.quiet ws g) (tT C.quiet tt) (tV C.quiet (mV te)) (own.map (·.2)) σ H Q := by
  obtain ⟨ρ, st, μ, F, h1, h2, h3⟩ := h
  refine ⟨ρ, st, μ, F, h1, h2, Post.bindI gE_lat h3 fun dg s J μ' F' H' x0 r0 wk h4 L hL => ?_⟩
  obtain ⟨ds, gd⟩ := dg
  obtain ⟨rn, xn⟩ := r0.newly (o := .lst []) hL
  have dd := r0.dead hL
  refine ⟨fun i m H => m = ds.length - i ∧ i ≤ ds.length ∧ ∃ acc st1 μ1 F1, LcI C μ' F' H' L (wipeE ρ (own.map (·.2))) (wipe σ (own.map (·.2))) acc H st1 μ1 F1 ∧
      PostE (C.at σ) Q μ' F' H' ((lcGo g tt te gd ds (wipeE ρ (own.map (·.2))) (ds.drop i) st1 acc).bind fun ys s' => .ok (.n (.l ys)) s'),
    ⟨ds.length, rfl, Nat.zero_le _, [], s, μ', F', ⟨xn, rn, (eok_wipe (h1.ext x0) _), ⟨[], upd_same, .nil⟩, dd.1, dd.2⟩, h4⟩, ?_⟩
  rintro i m H ⟨rfl, hi, acc, st1, μ1, F1, I, h5⟩
  by_cases hl : i < ds.length
  · obtain ⟨d, e1, e2⟩ := drop_cons hl
    rw [e2] at h5
    unfold lcGo at h5
    by_cases hgd : Grd gd ds st1
    · rw [if_pos hgd] at h5
      obtain ⟨go, step⟩ := wk.go i μ1 F1 H st1 d I.x.sx I.r hgd e1
      refine .inr ⟨go, fun H2 => ∃ acc st1 μ1 F1, LcI C μ' F' H' L (wipeE ρ (own.map (·.2))) (wipe σ (own.map (·.2))) acc H2 st1 μ1 F1 ∧
        PostE (C.at σ) Q μ' F' H' ((lcGo g tt te gd ds (wipeE ρ (own.map (·.2))) (ds.drop (i + 1)) st1 acc).bind fun ys s' => .ok (.n (.l ys)) s'), fun H2 hn => ⟨ds.length - (i + 1), by omega, rfl, hl, hn⟩, fun x H2 y => ?_⟩
      obtain ⟨F2, x2, r2, kd⟩ := step x H2 y
      have I2 := I.later x2 r2
      refine ⟨_, st1, μ1, F2, .d d, I2.k, r2, kd, ?_⟩
      show Post (C.quiet.at _) _ μ1 F2 H2 (g (.d d) (wipeE ρ (own.map (·.2))) st1)
      cases q : g (.d d) (wipeE ρ (own.map (·.2))) st1 with
      | no => simp only [q] at h5; exact False.elim h5
      | er _ _ => simp only [q] at h5; exact False.elim h5
      | ok ρ2 s2 =>
        simp only [q] at h5
        intro σ3 μ3 F3 H3 x3 r3 k3 ag
        have I3 := I2.later x3 r3
        refine ⟨wipe_agr ag hws, ρ2, s2, μ3, F3, k3, r3, ?_⟩
        show Post (C.quiet.at _) _ μ3 F3 H3 (tt ρ2 s2)
        cases q2 : tt ρ2 s2 with
        | no => simp only [q2] at h5; exact False.elim h5
        | er _ _ => simp only [q2] at h5; exact False.elim h5
        | ok k s3 =>
          intro μ4 F4 H4 x4 r4
          have I4 := I3.later x4 r4
          cases k with
          | false =>
            simp only [q2] at h5
            simp only [Bool.false_eq_true, if_false]
            exact ⟨acc, s3, μ4, F4, I4, h5⟩
          | true =>
            simp only [q2] at h5
            simp only [if_true]
            refine ⟨ρ2, s3, μ4, F4, k3.ext x4, r4, ?_⟩
            show Post (C.quiet.at _) _ μ4 F4 H4 (mV te ρ2 s3)
            cases q3 : mV te ρ2 s3 with
            | no => simp only [q3] at h5; exact False.elim h5
            | er _ _ => simp only [q3] at h5; exact False.elim h5
            | ok z s4 =>
              intro v μ5 F5 H5 x5 r5 k5
              have I5 := I4.later x5 r5
              cases z with
              | c _ => simp only [q3] at h5; exact False.elim h5
              | s _ => simp only [q3] at h5; exact False.elim h5
              | o _ => simp only [q3] at h5; exact False.elim h5
              | d y =>
                simp only [q3] at h5
                by_cases hz : acc.length < sizeLine
                · rw [if_pos hz] at h5
                  obtain ⟨xs, g1, g2, g3⟩ := I5.put hL k5
                  exact ⟨xs, g1, by rw [g2]; exact hz, acc ++ [y], s4, μ5, F5, g3, h5⟩
                · rw [if_neg hz] at h5; exact False.elim h5
    · rw [if_neg hgd] at h5; exact False.elim h5
  · have e : i = ds.length := by omega
    subst e
    rw [List.drop_length] at h5
    unfold lcGo at h5
    by_cases hgd : Grd gd ds st1
    · rw [if_pos hgd] at h5
      obtain ⟨xs, g1, g2⟩ := I.l
      exact .inl ⟨wk.stop μ1 F1 H st1 I.x.sx I.r hgd, h5 _ μ1 F1 H ⟨I.x, I.r, ⟨L, _, rfl, g1, ⟨xs, rfl, g2⟩, I.f, I.m⟩, fun c _ => ⟨L, rfl, hL⟩⟩⟩
    · rw [if_neg hgd] at h5; exact False.elim h5
theorem s_lc {scope : Scope} {own : List (Str × Nat)} {ifs : List Expr} {mi : En → Sto → Res Src} {ws : List Nat} {g : Gm} {tt : En → Sto → Res Bool} {te : Ev} (hc : X.calm = true) (hN : X.N.Nodup) (hi : PI X tg iter (tI C mi)) (ok : BlkOk X.N X.env.scope scope own)
    (hg : Blk X scope fun Y => PG Y tg (tG C.quiet ws g)) (ht : Blk X scope fun Y => PTs Y ifs (tT C.quiet tt)) (he : Blk X scope fun Y => PE Y e (tM C.quiet te)) (hws : ∀ i, i ∈ ws → i ∈ own.map (·.2)) (hs : ∀ x, foldedSetIterable iter X.env x = pure x := by intro _; rfl) :
    PE X (.ListComp e [⟨tg, iter, ifs, 0⟩] scope pos) (tM C (mLc mi g tt te (own.map (·.2)))) :=
  (pe_lc hc hN hi ok (fun s H A cl fp => hg s H A cl fp) (fun s H A cl fp => ht s H A cl fp) (fun s H A cl fp => pv_frz (he s H A cl fp)) hs).imp fun σ H Q h => s_lcT (scope := scope) hws σ H Q h
def ttY : En → Sto → Res Bool := fun _ st => .ok true st
theorem pts_yes : PTs X [] (tT C ttY) := ⟨fun pins s σ H Q I ⟨ρ, st, μ, F, h1, h2, h3⟩ => pts_nil.run pins s σ H Q I (h3 μ F H Ext.refl h2)⟩
end
end Cp
/-! Cp8: comprehensions of two clauses. -/
namespace Cp
open PySem L2
section
variable {X : Cx} {C : Cn} {Q : VK} {μ μ1 : Mu} {F H F1 H1 : Hp} {st : Sto} {e tg iter tg1 iter1 : Expr} {pos : Pos} {D : Ends}
open Classical in
noncomputable def lc2Go (g : Gm) (tt : En → Sto → Res Bool) (mi1 : En → Sto → Res Src) (g1 : Gm) (tt1 : En → Sto → Res Bool) (te : Ev) (gd : Option (Nat × List PyData)) (all : List PyData) (vs1 : List Nat) (ρ : En) : List PyData → Sto → List PyData → Res (List PyData)
  | [], st, acc => if Grd gd all st then .ok acc st else .no
  | d :: r, st, acc => if Grd gd all st then (match g (.d d) ρ st with
      | .ok ρ1 s1 => match tt ρ1 s1 with
        | .ok true s2 => match mi1 ρ1 s2 with
          | .ok dg s3 => match lcGo g1 tt1 te dg.2 dg.1 (wipeE ρ1 vs1) dg.1 s3 acc with
            | .ok acc' s4 => lc2Go g tt mi1 g1 tt1 te gd all vs1 ρ r s4 acc'
            | _ => .no
          | _ => .no
        | .ok false s2 => lc2Go g tt mi1 g1 tt1 te gd all vs1 ρ r s2 acc
        | _ => .no
      | _ => .no) else .no
noncomputable def mLc2 (mi : En → Sto → Res Src) (g : Gm) (tt : En → Sto → Res Bool) (mi1 : En → Sto → Res Src) (g1 : Gm) (tt1 : En → Sto → Res Bool) (te : Ev) (vs vs1 : List Nat) : Ev := fun ρ st => (mi ρ st).bind fun dg s => (lc2Go g tt mi1 g1 tt1 te dg.2 dg.1 vs1 (wipeE ρ vs) dg.1 s []).bind fun ys s' => .ok (.n (.l ys)) s'
theorem Eok.sx {K : Kw} (a : Sx μ F μ1 F1) {ρ : En} {σ : St} (h : Eok K F μ ρ σ) : Eok K F1 μ1 ρ σ :=
  ⟨h.1, fun i x e => let ⟨v, h1, h2⟩ := h.2 i x e; ⟨v, h1, by
    cases x with
    | d x => exact Dq.same a.same h2
    | c i => obtain ⟨p, h3, h4⟩ := h2; exact ⟨p, a.get h3, h4⟩
    | s ns => obtain ⟨p, h3, h4⟩ := h2; exact ⟨p, h3, a.same.seq h4⟩
    | o x =>
      obtain ⟨r, e⟩ := a.preη
      show ObOk K F1 μ1.η x v
      rw [e]
      exact ObOk.same r a.same h2⟩⟩
end
end Cp
/-! Cp9: what a def means, and its call. -/
namespace Cp
open PySem L2
abbrev Fs := List Vl → Sto → Res Rv
/-- room for k calls, and nothing is being shown -/
structure Rm (k : Nat) (A : Around) : Prop where
  room : Room k A
  gd : A.guards = some []
theorem Rm.mono {j k : Nat} {A : Around} (r : Rm k A) (h : j ≤ k) : Rm j A := ⟨r.room.mono h, r.gd⟩
theorem Rm.hu {k : Nat} {A : Around} (r : Rm k A) : A.units + 64 < cLine := r.room.units
/-- a def's promise out of its meaning -/
def spF (K : Kw) (mg : Str → Option Value) (sem : Fs) : Sp := fun vs H Q E => ∃ args st μ F, VokAll K F μ args vs ∧ SR K μ F H st ∧ PostE (Cn.ofE K mg E) Q μ F H (sem args st)
structure FnC (P : Program) (w : World) (K : PySem.W.Frag) (mg : Str → Option Value) (base : Heap) (k : Nat) (f : Addr) (fd : FuncData) (ps : List Str) (sem : Fs) : Prop where
  len : ∀ vs H Q E, spF ⟨K, w⟩ mg sem vs H Q E → vs.length = ps.length
  run : ∀ (A : Around) (outer : List Env) (s : Shared) (H : Hp) (args : Args) (us : List Value) (vs : List V) (Q : VK) (E : XK), Rm k A → Env0 P w K mg base A outer s H → BindsTo s fd args (ps.zip us) → Vals vs us → spF ⟨K, w⟩ mg sem vs H Q E →
    codeAny (model P w) A (.call (.ref f) args) (CR (L2.CX P w) outer P w H s Q E) s
/-- a def that is known by its name -/
def Kn (P : Program) (w : World) (K : PySem.W.Frag) (mg : Str → Option Value) (base : Heap) (x : Str) (k : Nat) (sem : Fs) : Prop :=
  ∃ f fd ps, mg x = some (.ref f) ∧ PySem.W.keepIn K (.ref f) = true ∧ Binds K fd ps [] ∧ FnC P w K mg base k f fd ps sem
section
variable {P : Program} {w : World} {K : PySem.W.Frag} {mg : Str → Option Value} {base : Heap} {x : Str} {k j : Nat} {sem : Fs}
theorem Kn.mono (h : Kn P w K mg base x j sem) (hk : j ≤ k) : Kn P w K mg base x k sem := by
  obtain ⟨f, fd, ps, h1, h2, h3, G⟩ := h
  exact ⟨f, fd, ps, h1, h2, h3, G.len, fun A outer s H args us vs Q E r => G.run A outer s H args us vs Q E (r.mono hk)⟩
/-- a meaning that says less -/
theorem Kn.less {sem' : Fs} (h : Kn P w K mg base x k sem) (hs : ∀ args st, sem' args st = .no ∨ sem' args st = sem args st) : Kn P w K mg base x k sem' := by
  obtain ⟨f, fd, ps, h1, h2, h3, G⟩ := h
  have go : ∀ {vs H Q E}, spF ⟨K, w⟩ mg sem' vs H Q E → spF ⟨K, w⟩ mg sem vs H Q E := fun {vs H Q E} ⟨args, st, μ, F, a, b, c⟩ => ⟨args, st, μ, F, a, b, by
    rcases hs args st with e | e
    · rw [e] at c; exact False.elim c
    · rw [e] at c; exact c⟩
  exact ⟨f, fd, ps, h1, h2, h3, fun vs H Q E h => G.len vs H Q E (go h), fun A outer s H args us vs Q E r e0 b v h => G.run A outer s H args us vs Q E r e0 b v (go h)⟩
end
/-! ### the call -/
def gcR (n : Nat) : Res Rv → Res Rv
  | .ok r s => match r with
    | .d x => .ok (.d x) (s.take n)
    | .s ns => .ok (.s ns) (s.take n)
    | .o x => .ok (.o x) (s.take n)
    | .n c => .ok (.n c) (s.take n)
    | .c i => if i < n then .ok (.c i) (s.take n) else match s[i]? with
      | some c => if isGone c = true then .no else .ok (.n c) (s.take n)
      | none => .no
  | .er e s => .er e (s.take n)
  | .no => .no
def mCall (sem : Fs) (mas : En → Sto → Res (List Vl)) : Ev := fun ρ st => (mas ρ st).bind fun xs s => gcR st.length (sem xs s)
/-- what a body's rules ask of where it stands -/
structure Bd (k : Nat) (X : Cx) (C : Cn) : Prop where
  cm : X.calm = true
  nd : X.N.Nodup
  hp : PassesOwn (model X.prog X.w) X.A X.env X.xe
  ps : ∀ σ, PassesAt (L2.CX X.prog X.w) X σ (C.at σ).E
  hK : C.K.K = X.K
  hw : C.K.w = X.w
  hm : C.mg = X.mg
  rm : Rm k X.A
  tk : Takes X C.W
theorem Bd.blk {k : Nat} {X : Cx} {C : Cn} (B : Bd k X C) (s : Shared) (H : Hp) (scope : Scope) (e : Env) (fp : List Addr) : Bd k (X.blk s H scope e fp) C.quiet :=
  ⟨B.cm, B.nd, PassesOwn.never, fun _ _ _ _ _ _ _ z => passL _ _ _ _ _ _ (by assumption) z, B.hK, B.hw, B.hm, B.rm, fun _ _ ⟨_, _, _, _, _, _, _, _, _, _, _, _, _, _, _, _, w⟩ => False.elim w⟩
theorem call_post {C : Cn} {Q : VK} {μ μ1 : Mu} {F H F1 H1 : Hp} {st : Sto} {r : Res Rv} (h0 : SR C.K μ F H st) (x : Ext μ F H μ1 F1 H1) (h : PostE C Q μ F H (gcR st.length r)) : PostE C Q μ1 F1 H1 r := by
  cases r with
  | no => exact h
  | er e s2 =>
    intro cls dd μ2 F2 H2 y r2 k
    obtain ⟨c1, c2, c3⟩ := r2.cut (x.trans y) st.length h0.len h0.pos
    exact h cls dd _ F2 H2 c2 c1 k
  | ok r s2 =>
    intro v μ2 F2 H2 o
    obtain ⟨y, r2, ok, new⟩ := o
    have z := x.trans y
    obtain ⟨c1, c2, c3⟩ := r2.cut z st.length h0.len h0.pos
    cases r with
    | d d => exact h v _ F2 H2 ⟨c2, c1, ok, fun _ e => nomatch e⟩
    | s ns => exact h v _ F2 H2 ⟨c2, c1, ok, fun _ e => nomatch e⟩
    | o x => exact h v _ F2 H2 ⟨c2, c1, ok, fun _ e => nomatch e⟩
    | n c =>
      obtain ⟨a, o, rfl, g1, g2, g3, g4⟩ := ok
      obtain ⟨a', e1, g5⟩ := new c rfl
      cases e1
      refine h _ _ F2 H2 ⟨c2, c1, ⟨a, o, rfl, g1, g2, g3, fun hm => g4 ?_⟩, fun _ _ => ⟨a, rfl, x.dom a g5⟩⟩
      rcases hm with hm | hm
      · obtain ⟨i, hi, q⟩ := List.getElem_of_mem hm
        have q2 : (μ2.l.take st.length).tail[i]? = some a := (List.getElem?_eq_getElem hi).trans (congrArg some q)
        rw [List.getElem?_tail] at q2
        have hi2 : i + 1 < st.length := by
          have := (List.getElem?_eq_some_iff.mp q2).1
          rw [List.length_take] at this; omega
        rw [List.getElem?_take_of_lt hi2] at q2
        exact Mu.mem_l q2 (by omega)
      · exact .inr hm
    | c i =>
      obtain ⟨a, ha, rfl⟩ := ok
      simp only [gcR] at h
      by_cases hi : i < st.length
      · rw [if_pos hi] at h
        exact h _ _ F2 H2 ⟨c2, c1, ⟨a, by show (μ2.l.take st.length)[i]? = _; rw [List.getElem?_take_of_lt hi]; exact ha, rfl⟩, fun _ e => nomatch e⟩
      · rw [if_neg hi] at h
        cases q : s2[i]? with
        | none => simp only [q] at h; exact False.elim h
        | some cl =>
          simp only [q] at h
          have hz : isGone cl = false := by
            cases e : isGone cl with
            | false => rfl
            | true => rw [if_pos e] at h; exact False.elim h
          rw [if_neg (by rw [hz]; exact Bool.false_ne_true)] at h
          obtain ⟨b, o, g1, g2, g3⟩ := r2.cell i cl q hz
          rw [ha] at g1; cases g1
          have i0 := r2.ne0 q hz
          have hmem : a ∈ μ2 := Mu.mem_l ha i0
          have hn : a ∉ μ2.take st.length := fun hm => by
            rcases hm with hm | hm
            · obtain ⟨j, hj, e⟩ := List.getElem_of_mem hm
              have q2 : (μ2.l.take st.length).tail[j]? = some a := (List.getElem?_eq_getElem hj).trans (congrArg some e)
              rw [List.getElem?_tail] at q2
              have hj2 : j + 1 < st.length := by
                have := (List.getElem?_eq_some_iff.mp q2).1
                rw [List.length_take] at this; omega
              rw [List.getElem?_take_of_lt hj2] at q2
              have := r2.one ha q2 i0 (by omega)
              omega
            · obtain ⟨j, hj, e⟩ := List.getElem_of_mem hm
              exact r2.apart ha ((List.getElem?_eq_getElem hj).trans (congrArg some e)) i0 rfl
          have hn0 : a ∉ μ := fun hm => hn (by
            rcases hm with hm | hm
            · rw [c3] at hm; exact .inl hm
            · obtain ⟨r, e⟩ := z.preη
              exact .inr (by show a ∈ μ2.η; rw [e]; exact List.mem_append_left _ hm))
          exact h _ _ F2 H2 ⟨c2, c1, ⟨a, o, rfl, g2, g3, r2.sep i a cl ha q (notDead hz), hn⟩, fun _ _ => ⟨a, rfl, (z.nC a hmem).elim (fun e => absurd e hn0) id⟩⟩
theorem Post.bindA0 {C : Cn} {μ : Mu} {F H : Hp} {β : Type} {G : β → Sto → Mu → Hp → Hp → Prop} {m : Res (List Vl)} {k : List Vl → Sto → Res β} {Q : List V → Hp → Prop} (h : Post C G μ F H (m.bind k))
    (hk : ∀ x s v μ1 F1 H1, Ext μ F H μ1 F1 H1 → SR C.K μ1 F1 H1 s → VokAll C.K F1 μ1 x v → Post C G μ F H (k x s) → Q v H1) : PostA C Q μ F H m := by
  cases m with
  | ok x s => exact fun v μ1 F1 H1 e s1 o => hk x s v μ1 F1 H1 e s1 o h
  | er e s => exact h
  | no => exact h
section
variable {X : Cx} {C : Cn} {k j : Nat} {x : Str} {p pos : Pos} {e : Expr} {es : List Expr} {mas : En → Sto → Res (List Vl)} {sem : Fs}
theorem s_call (B : Bd k X C) (G : Kn X.prog X.w X.K X.mg X.base x j sem) (hj : j ≤ k) (hg : Gl X x) (ha : PA X (e :: es) (tAs C mas)) (hdb : (x == ("__debug__" : Str)) = false := by decide)
    (he : starEach (e :: es) X.env = (false, eval e X.env) :: starEach es X.env := by rfl) (hpl : (backTo pos (starEach es X.env)).any (·.1) = false := by rfl) : PE X (.Call (.Name x p) (e :: es) [] pos) (tM C (mCall sem mas)) := by
  obtain ⟨f, fd, ps, hm, hkp, hb, G⟩ := G
  obtain ⟨⟨K, w⟩, mg, W, σC⟩ := C
  obtain rfl : K = X.K := B.hK
  obtain rfl : w = X.w := B.hw
  obtain rfl : mg = X.mg := B.hm
  refine ⟨fun pins s σ H Q I ⟨ρ, st, μ, F, h1, h2, h3⟩ => ?_⟩
  refine wpAny_Call_Name_kw (ld_glob I hg hm ?_ hdb)
  refine PySem.W.callWith_K (h₀ := X.base) I.ok.mod.kin hkp (thn (ha.run pos pins s σ H (fun vs H1 => spF ⟨X.K, X.w⟩ X.mg sem vs H1 Q fun cls d H => W cls d σ H) I ⟨ρ, st, μ, F, h1, h2, Post.bindA0 h3 fun xs s1 vs μ1 F1 H1 x1 r1 k1 h4 => ?_⟩) fun us s1 ⟨vs, H1, I1, r, q⟩ => ⟨I1.kIn, ?_⟩) he hpl
  · exact ⟨xs, s1, μ1, F1, k1, r1, call_post h2 x1 h4⟩
  · have hl : us.length = ps.length := by rw [← r.length]; exact G.len _ _ _ _ q
    refine wpAny_call (codeAny_mono (G.run X.A X.stack s1 H1 ⟨us, []⟩ us vs Q (fun cls d H => W cls d σ H) (B.rm.mono hj) I1.env0 (by have hb' := hb s1 us I1.kIn (by simpa using hl); rw [List.append_nil] at hb'; exact hb') r q) fun r' s' hq => ?_)
    cases r' with
    | error e => exact B.ps σ pins H1 s1 e s' I1 hq
    | ok fl =>
      cases fl with
      | ret u => exact I1.after hq
      | next => exact False.elim hq
      | brk => exact False.elim hq
      | cont => exact False.elim hq
end
/-! ### a def of the text means its body -/
def bodyF (n k : Nat) (b : Sv) : Fs := fun args st => if args.length = k then match b (args.map some ++ List.replicate (n - args.length) none) st with
    | .rt r s => .ok r s
    | .nx _ s => .ok (.d .none) s
    | .er e s => .er e s
    | _ => .no
  else .no
section
variable {P : Program} {w : World} {K : PySem.W.Frag} {mg : Str → Option Value} {base : Heap} {k : Nat} {x : Str} {N ps : List Str} {sb : Sv}
theorem VokAll.length {K : Kw} {F : Hp} {μ : Mu} : ∀ {xs : List Vl} {vs : List V}, VokAll K F μ xs vs → xs.length = vs.length
  | _, _, .nil => rfl
  | _, _, .cons _ r => by rw [List.length_cons, List.length_cons, VokAll.length r]
theorem start_ok {K : Kw} {F : Hp} {μ : Mu} {args : List Vl} {vs : List V} (N : List Str) (h : VokAll K F μ args vs) : Eok K F μ (args.map some ++ List.replicate (N.length - args.length) none) (L2.start N vs) := by
  have hl := h.length
  refine ⟨by unfold L2.start; simp [hl], fun i y e => ?_⟩
  unfold L2.start
  by_cases hi : i < args.length
  · rw [List.getElem?_append_left (by simpa using hi), List.getElem?_map] at e
    rw [List.getElem?_append_left (by rw [List.length_map, ← hl]; exact hi), List.getElem?_map]
    have key : ∀ {xs : List Vl} {vs : List V} {i : Nat} {y : Vl}, VokAll K F μ xs vs → xs[i]? = some y → ∃ v, vs[i]? = some v ∧ Vok K F μ y v := by
      intro xs vs i y h e
      induction h generalizing i with
      | nil => simp at e
      | cons h1 r ih =>
        cases i with
        | zero => simp at e; subst e; exact ⟨_, rfl, h1⟩
        | succ i =>
          obtain ⟨v, k1, k2⟩ := ih (by simpa using e)
          exact ⟨v, by simpa using k1, k2⟩
    cases q : args[i]? with
    | none => rw [q] at e; cases e
    | some z =>
      rw [q] at e; cases e
      obtain ⟨v, k1, k2⟩ := key h q
      exact ⟨v, by rw [k1]; rfl, k2⟩
  · rw [List.getElem?_append_right (by simpa using hi), List.getElem?_replicate] at e
    split at e <;> cases e
theorem fn_of {st : Stmt} {f : Addr} {fd : FuncData} (F : Fun K x x st f fd) (S : FnScope N ps (defScope st))
    (body : ∀ (cdv : Value) (A : Around) (outer : List Env) (s : Shared) (H : Hp) (E : XK), Bd k (cxOf (L2.CX P w) P w K mg base N x (defScope st) f cdv A outer s H E) (Cn.ofE ⟨K, w⟩ mg E) →
      PSs (cxOf (L2.CX P w) P w K mg base N x (defScope st) f cdv A outer s H E) (defBody st) (tS (Cn.ofE ⟨K, w⟩ mg E) sb)) : FnC P w K mg base (k + 1) f fd ps (bodyF N.length ps.length sb) := by
  obtain ⟨oc, od, kV, doc, pm, an, cdv, ct, osl, rfl, lk, hcd⟩ := F.ex
  have hlen : ∀ vs H Q E, spF ⟨K, w⟩ mg (bodyF N.length ps.length sb) vs H Q E → vs.length = ps.length := fun vs H Q E ⟨args, st, μ, F, a, b, c⟩ => by
    unfold bodyF at c
    by_cases hl : args.length = ps.length
    · rw [← a.length, hl]
    · rw [if_neg hl] at c; exact False.elim c
  refine ⟨hlen, fun A outer s H args us vs Q E hr e0 hbd r hsp => ?_⟩
  have hl := hlen _ _ _ _ hsp
  have KX : K.In s.heap := e0.mod.kin.keeps fun b o e => (e0.bs b o e).1
  have lim : s.heap.NoLimit := e0.mod.nolimit.keeps fun b o e => (e0.bs b o e).1
  have hkind : ∀ y ∈ ps.zip us, (defScope st).names.lookup y.1 = some .local ∨ ((defScope st).names.lookup y.1 = some .cell ∧ ((cellsFrom (s.heap.objs.size + 1) (defScope st).names []).lookup y.1).isSome = true) := fun ⟨n, v⟩ hy =>
    (S.par n (List.of_mem_zip hy).1).imp id fun q => ⟨q, PySem.W.cellsFrom_some _ _ _ (.inl q)⟩
  refine codeAny_call_function hr.room.depth (KX _ _ lk) rfl S.co S.gen rfl (PySem.W.codeRec_of KX hcd) (hbd _ _ _ _ ?_)
  refine wpAny_newFunctionEnv_cells S.kind hkind fun env he s1 y => ?_
  subst he
  refine ⟨lim.keeps y.toInCall.keep, codeAny_func ?_⟩
  have hr2 : Rm k (A.deeper (PyProof.Rows.envOfC x (defScope st) s.heap.objs.size f cdv)) := ⟨hr.room.deeper _, hr.gd⟩
  have I : Inv (cxOf (L2.CX P w) P w K mg base N x (defScope st) f cdv A outer s H E) [] (L2.start N vs) H s1 := inv_start S hr.room.hd e0 hl r y
  have bd : Bd k (cxOf (L2.CX P w) P w K mg base N x (defScope st) f cdv A outer s H E) (Cn.ofE ⟨K, w⟩ mg E) := ⟨rfl, S.nd, passes_of rfl, fun σ pins H s e s' I c => passes_call (takes_of rfl rfl rfl rfl) (fun _ _ _ _ h => h) pins σ H s e s' I c, rfl, rfl, rfl, hr2, takes_of rfl rfl rfl rfl⟩
  obtain ⟨as, st0, μ, F0, a, b, c⟩ := hsp
  have hal : as.length = ps.length := by rw [a.length, hl]
  unfold bodyF at c
  rw [if_pos hal] at c
  refine wpAny_mono ((body cdv A outer s H E bd).run [] s1 (L2.start N vs) H { nx := fun _ H' => Q .non H', rt := Q } I ⟨_, st0, μ, F0, start_ok N a, b, ?_⟩) (fun fl s' hs => ?_) fun e s' hs => hs
  · show PostS _ _ μ F0 H (sb (as.map some ++ List.replicate (N.length - as.length) none) st0)
    cases q : sb (as.map some ++ List.replicate (N.length - as.length) none) st0 with
    | rt r s => simp only [q] at c; exact c
    | nx ρ s => simp only [q] at c; exact fun σ' μ' F' H' x2 r2 _ => c .non μ' F' H' ⟨x2, r2, .non, fun _ e => nomatch e⟩
    | er e s => simp only [q] at c; exact c
    | bk ρ s => simp only [q] at c; exact False.elim c
    | ct ρ s => simp only [q] at c; exact False.elim c
    | no => simp only [q] at c; exact False.elim c
  · have fin : ∀ {σ' : St} {H' : Hp} {v : V} {u : Value}, Inv (cxOf (L2.CX P w) P w K mg base N x (defScope st) f cdv A outer s H E) [] σ' H' s' → RelV v u → Q v H' → CE outer P w H s Q u s' :=
      fun {σ' H' v u} J rv q => ⟨v, H', J.os, J.bare, J.base, J.hok, rv, q⟩
    cases fl with
    | ret u => obtain ⟨v, σ', H', J, rv, q⟩ := hs; exact fin J rv q
    | next => obtain ⟨σ', H', J, q⟩ := hs; exact fin (v := V.non) (u := Value.none) J rfl q
    | brk => obtain ⟨_, _, _, q⟩ := hs; exact False.elim q
    | cont => obtain ⟨_, _, _, q⟩ := hs; exact False.elim q
end
end Cp
/-! Cpe: the end of a law. -/
namespace Cp
open PySem L2
section
open PySem.W PyProof.Rows
variable {P : Program} {w : World} {K : Frag} {mg mb : Str → Option Value} {k : Nat} {fa a : Addr} {fd : FuncData} {x : Str} {sem : Fs} {s0 : Shared} {vs : List Value} {ns : List Int}
theorem law_room {k : Nat} (h : k ≤ 230) : Rm k callerA := ⟨⟨rfl, by show 1 + 300 + 3 * k + 5 < 1000; omega, by show 4 + 16 * k + 200 < 9900; omega⟩, rfl⟩
end
end Cp
/-! Cpo: the rules by Python's words, defs by the head's facts. -/
namespace Cp
open PySem L2
section
open PySem.Spec PyProof.Rows
/-- a tuple times one, times nothing -/
theorem tuple_mul1 (l : Addr) (items : Array Value) (n : Nat) (dd : Option Addr) (sl : Array (Option Value)) (u : Tok) :
    Meets (Builtin.«tuple.__mul__» ⟨[.ref l, .int 1 u], []⟩) (fun _ R s => s.heap.get? l = some { cls := .type "tuple", dict := dd, data := .seq items n, slots := sl } ∧ R (.ok (.ret (Value.ref l))) s) :=
  .of_wp fun prog w A R s h => by
    obtain ⟨hp, g, d, tk, os⟩ := s
    obtain ⟨hl, h⟩ := h
    have f1 := AutoSeq1.idx_int
    wp_walk using wpAny_loadPart' hl
    have c1 : ((items.isEmpty || (1 : Int) == 1) = true) := by rw [Bool.or_eq_true]; exact .inr rfl
    repeat (first
      | (refine wpAny_ite_false (decide_eq_false (by decide)) ?_; wp_walk using wpAny_loadPart' hl)
      | (refine wpAny_ite_true (decide_eq_true c1) ?_; wp_walk using wpAny_loadPart' hl))
    exact ⟨_, rfl, h⟩
theorem tuple_mul0 (l : Addr) (items : Array Value) (n : Nat) (dd : Option Addr) (sl : Array (Option Value)) (x : Int) (u : Tok) (c0 : (decide (x < -(2 ^ 63)) || decide (x ≥ 2 ^ 63)) = false) (c1 : (items.isEmpty || x == 1) = false) (c2 : (decide (x ≤ 0) || items.isEmpty) = true) :
    Meets (Builtin.«tuple.__mul__» ⟨[.ref l, .int x u], []⟩) (fun _ R s => s.heap.get? l = some { cls := .type "tuple", dict := dd, data := .seq items n, slots := sl } ∧
      R (.ok (.ret (Value.ref s.heap.objs.size))) { s with heap := s.heap.push { cls := Value.type "tuple", data := Data.seq #[] }, toks := s.toks }) :=
  .of_wp fun prog w A R s h => by
    obtain ⟨hp, g, d, tk, os⟩ := s
    obtain ⟨hl, h⟩ := h
    have f1 := AutoSeq1.idx_int
    wp_walk using wpAny_loadPart' hl
    repeat (first
      | (refine wpAny_ite_false (decide_eq_false (by rw [c0]; exact Bool.false_ne_true)) ?_; wp_walk using wpAny_loadPart' hl)
      | (refine wpAny_ite_false (decide_eq_false (by rw [c1]; exact Bool.false_ne_true)) ?_; wp_walk using wpAny_loadPart' hl)
      | (refine wpAny_ite_true (decide_eq_true c2) ?_; wp_walk using wpAny_loadPart' hl))
    exact ⟨_, rfl, h⟩
def rRepT2 (K : PySem.W.Frag) : R2 := fun x y H Q => ∃ l k xs, x = .ref l ∧ y = .int k ∧ SqT K H l xs ∧ xs ≠ [] ∧ -1000 ≤ k ∧ k ≤ 1 ∧ xs.length ≤ 1000 ∧ (k = 1 → Q (.ref l) H) ∧ (k ≤ 0 → ∀ p, H p = none → Q (.ref p) (upd H p (.tup [])))
theorem op_repT2 {X : Cx} : OpR X (binaryOp .Mult) (rRepT2 X.K) := by
  intro pins s σ H x y v u Q I rx ry h
  obtain ⟨l, k, xs, rfl, rfl, hT, hne, h1, h2, hz, q1, q0⟩ := h
  cases rx
  obtain ⟨t, rfl⟩ := ry
  obtain ⟨its, r, ⟨⟨cls, dd, data, sl⟩, ho, hc, n, hd⟩, hs⟩ := I.tuple hT
  simp only at hc hd
  subst hc hd
  have hle : its.length = xs.length := r.length.symm
  have hn : its ≠ [] := fun e => hne (by
    rw [e] at hle
    exact List.eq_nil_of_length_eq_zero hle.symm)
  have hi : its.toArray.isEmpty = false := by
    cases its with
    | nil => exact absurd rfl hn
    | cons a b => rfl
  by_cases hk : k = 1
  · subst hk
    exact wpAny_binaryOp_repeat_ref (T := "tuple") (U := "int") (by decide) ⟨_, ho, rfl⟩ (fun s' => typeIs_int s' 1 t) noFill_tuple_mul F.fills_int_mul F.slot_int_rmul repeat_tuple F.slot_int_index.lookup
      (call_meets F.slot_int_rmul (typeIs_int s 1 t) F.entry_int_rmul (F.args_int_rmul_2 _ _) (int_rmul_tuple 1 t l its.toArray n dd sl)
        ⟨ho, rfl, ⟨_, ho, rfl⟩, call_meets F.slot_tuple_mul ⟨_, ho, rfl⟩ F.entry_tuple_mul (F.args_tuple_mul_2 _ _) (tuple_mul1 l its.toArray n dd sl t) ⟨ho, .ref l, H, I, rfl, q1 rfl⟩⟩)
  · have c0 : (decide (k < -(2 ^ 63)) || decide (k ≥ 2 ^ 63)) = false := by
      rw [decide_eq_false (by omega), decide_eq_false (by omega)] <;> rfl
    have c1 : (its.toArray.isEmpty || k == 1) = false := by
      rw [hi, Bool.false_or]
      exact beq_eq_false_iff_ne.mpr hk
    have c2 : (decide (k ≤ 0) || its.toArray.isEmpty) = true := by
      rw [decide_eq_true (by omega)]; rfl
    refine wpAny_binaryOp_repeat_ref (T := "tuple") (U := "int") (by decide) ⟨_, ho, rfl⟩ (fun s' => typeIs_int s' k t) noFill_tuple_mul F.fills_int_mul F.slot_int_rmul repeat_tuple F.slot_int_index.lookup
      (call_meets F.slot_int_rmul (typeIs_int s k t) F.entry_int_rmul (F.args_int_rmul_2 _ _) (int_rmul_tuple k t l its.toArray n dd sl)
        ⟨ho, rfl, ⟨_, ho, rfl⟩, call_meets F.slot_tuple_mul ⟨_, ho, rfl⟩ F.entry_tuple_mul (F.args_tuple_mul_2 _ _) (tuple_mul0 l its.toArray n dd sl k t c0 c1 c2) ⟨ho, ?_⟩⟩)
    refine ⟨.ref s.heap.objs.size, _, I.laid (t' := s.toks) (o := .tup []) (fun b ob q => Heap.get?_push_of_some _ q) (Nat.le_refl _) ?_, rfl, q0 (by omega) _ (I.hok.fresh (Nat.le_refl _))⟩
    exact ⟨Nat.zero_le _, [], .nil, IsTup.new _ _⟩
end
section
variable {X : Cx} {C : Cn} {k j : Nat} {x : Str} {p pos apos : Pos} {e a b c : Expr} {es : List Expr} {m ma mb mc : Ev} {mas : En → Sto → Res (List Vl)}
/-- + -/
def fAdd : PyData → PyData → Option Rv
  | .int i, .int j => some (.d (.int (i + j)))
  | .str i, .str j => if i.length + j.length ≤ sizeLine then some (.d (.str (i ++ j))) else none
  | .tuple i, .tuple j => if i.length + j.length ≤ sizeLine then some (.d (.tuple (i ++ j))) else none
  | .list i, .list j => if i.length + j.length ≤ sizeLine then some (.n (.l (i ++ j))) else none
  | _, _ => none
theorem BinOk.of {r : R2} {f g : PyData → PyData → Option Rv} (h : BinOk C r f) (e : ∀ a b z, g a b = some z → f a b = some z) : BinOk C r g := fun a b res v u μ F H st Q s va vb q p => h a b res v u μ F H st Q s va vb (e a b res q) p
theorem s_add (ha : PE X a (tM C ma)) (hb : PE X b (tM C mb)) : PE X (.BinOp a .Add b pos) (tM C (mBin fAdd ma mb)) :=
  s_bin (op_add.or (op_add_str.or (op_catA.or op_cat))) (BinOk.of (fI0_ok.or (fCatS_ok.or (fCatT_ok.or fCatL_ok))) fun a b z h => by
    cases a <;> cases b <;> first | exact h | (simp only [fI, fCatS, fCatT, fCatL, fAdd, if_true] at h ⊢; first | exact h | (split at h <;> first | (cases h; done) | (cases h; simp [*])))) ha hb
theorem s_sub (ha : PE X a (tM C ma)) (hb : PE X b (tM C mb)) : PE X (.BinOp a .Sub b pos) (tM C (mBin (fI (fun _ _ => true) fun i j => i - j) ma mb)) := s_bin op_sub fI0_ok ha hb
def pMul (i j : Int) : Bool := decide (i.natAbs.log2 + j.natAbs.log2 < 1000000)
def repD (xs : List PyData) (k : Int) : List PyData := (List.replicate k.toNat xs).flatten
/-- * -/
def fMul : PyData → PyData → Option Rv
  | .int i, .int j => if pMul i j then some (.d (.int (i * j))) else none
  | .list xs, .int k => if -(2 ^ 63) ≤ k ∧ k < 2 ^ 63 ∧ xs.length * k.toNat ≤ sizeLine then some (.n (.l (repD xs k))) else none
  | .tuple xs, .int k => if xs ≠ [] ∧ -1000 ≤ k ∧ k ≤ 1000 ∧ xs.length ≤ 1000 then some (.d (.tuple (repD xs k))) else none
  | _, _ => none
theorem rep_dq {K : Kw} {F : Hp} {xs : List V} {ds : List PyData} (h : DqAll K F xs ds) (n : Nat) : DqAll K F (List.replicate n xs).flatten (List.replicate n ds).flatten := by
  induction n with
  | zero => exact .nil
  | succ n ih => rw [List.replicate_succ, List.replicate_succ, List.flatten_cons, List.flatten_cons]; exact h.app ih
theorem fMul_ok {K : PySem.W.Frag} : BinOk C (fun x y H Q => rI CMulW (fun i j => .int (i * j)) x y H Q ∨ rRep x y H Q ∨ rRepT K x y H Q ∨ rRepT2 K x y H Q) fMul := by
  intro a b res v u μ F H st Q s va vb e h
  unfold fMul at e
  split at e
  · split at e
    · rename_i hh
      cases e
      exact .inl ⟨_, _, va.int, vb.int, (by simpa [pMul, CMulW] using hh), fin_d s h (.int _)⟩
    · cases e
  · split at e
    · rename_i hh
      cases e
      obtain ⟨q, ys, rfl, q1, q2⟩ := va
      exact .inr (.inl ⟨q, _, ys, rfl, vb.int, q1, hh.1, hh.2.1, by rw [q2.length]; exact hh.2.2, fun z hz => fin_n s h hz ⟨_, rfl, rep_dq q2 _⟩⟩)
    · cases e
  · split at e
    · rename_i xs k hh
      cases e
      obtain ⟨q, ys, rfl, q1, q2⟩ := va.tup
      have ne : ys ≠ [] := fun z => hh.1 (by subst z; cases q2; rfl)
      have hln : ys.length ≤ 1000 := by rw [q2.length]; exact hh.2.2.2
      by_cases h2 : 2 ≤ k
      · exact .inr (.inr (.inl ⟨q, _, ys, rfl, vb.int, SqT.rd s.sub q1, ne, h2, hh.2.2.1, hln, fun z hz => fin_t s h hz (rep_dq q2 _)⟩))
      · refine .inr (.inr (.inr ⟨q, _, ys, rfl, vb.int, SqT.rd s.sub q1, ne, hh.2.1, by omega, hln, fun e1 => ?_, fun e0 z hz => ?_⟩))
        · subst e1
          have e : repD xs 1 = xs := by unfold repD; simp
          rw [e] at h
          exact fin_d s h (.tup q1 q2)
        · have e : repD xs k = [] := by unfold repD; rw [Int.toNat_of_nonpos e0]; rfl
          rw [e] at h
          exact fin_t s h hz .nil
    · cases e
  · cases e
def pDiv (_ j : Int) : Bool := decide (0 < j) && decide (j.natAbs.log2 < 9000)
theorem s_fdiv (ha : PE X a (tM C ma)) (hb : PE X b (tM C mb)) : PE X (.BinOp a .FloorDiv b pos) (tM C (mBin (fI pDiv fun i j => i / j) ma mb)) :=
  s_bin op_fdivW (fI_ok fun i j h => by simpa [pDiv, CDivW] using h) ha hb
def pPos (_ j : Int) : Bool := decide (0 < j)
theorem s_mod (ha : PE X a (tM C ma)) (hb : PE X b (tM C mb)) : PE X (.BinOp a .Mod b pos) (tM C (mBin (fI pPos fun i j => i % j) ma mb)) := s_bin op_mod (fI_ok fun i j h => of_decide_eq_true h) ha hb
def CPowW (i j : Int) : Prop := 0 ≤ j ∧ (Builtin.Int.intBits i : Int) * j ≤ 2 ^ 27
theorem op_powW : OpR X (binaryOp .Pow) (rI CPowW fun i j => .int (i ^ j.toNat)) := opI fun _ _ _ _ _ _ _ hc q => PyProof.Rows.pow_int hc.1 hc.2 q
def pPow (i j : Int) : Bool := decide (0 ≤ j) && decide ((Builtin.Int.intBits i : Int) * j ≤ 2 ^ 27)
theorem s_pow (ha : PE X a (tM C ma)) (hb : PE X b (tM C mb)) : PE X (.BinOp a .Pow b pos) (tM C (mBin (fI pPow fun i j => i ^ j.toNat) ma mb)) :=
  s_bin op_powW (fI_ok fun i j h => by unfold pPow at h; simp only [Bool.and_eq_true, decide_eq_true_eq] at h; exact ⟨h.1, h.2⟩) ha hb
def fNeg : PyData → Option PyData
  | .int i => some (.int (-i))
  | _ => none
def mNeg (m : Ev) : Ev := fun ρ st => (mV m ρ st).bind fun x s => match (view s x).bind fNeg with
  | some d => .ok (.d d) s
  | none => .no
theorem s_neg (ha : PE X a (tM C ma)) : PE X (.UnaryOp .USub a pos) (tM C (mNeg ma)) := (pe_un un_neg (pv_frz ha)).imp fun σ H Q ⟨ρ, st, μ, F, h1, h2, h3⟩ => ⟨ρ, st, μ, F, h1, h2, Post.bindV gE_lat h3 fun x s v μ1 F1 H1 x1 r1 k1 h4 => by
  cases q : view s x with
  | none => simp only [q, Option.bind] at h4; exact False.elim h4
  | some d =>
    cases d with
    | int i => simp only [q, Option.bind, fNeg] at h4; exact ⟨i, (view_ok r1 k1 q).int, fin_d r1 h4 (.int _)⟩
    | _ => simp only [q, Option.bind, fNeg] at h4; exact False.elim h4⟩
/-! ### comparisons: as a test, as a value -/
theorem t_eq (B : Bd k X C) (ha : PE X a (tM C ma)) (hb : PE X b (tM C mb)) : PT X (.Compare a [.Eq] [b] pos) (tT C (mCmp gEq ma mb)) := s_cmpT (op_eqD B.rm.hu) gEq_ok ha hb (nomark _)
theorem t_ne (B : Bd k X C) (ha : PE X a (tM C ma)) (hb : PE X b (tM C mb)) : PT X (.Compare a [.NotEq] [b] pos) (tT C (mCmp gNe ma mb)) := s_cmpT (op_neD B.rm.hu) gNe_ok ha hb (nomark _)
theorem t_lt (ha : PE X a (tM C ma)) (hb : PE X b (tM C mb)) : PT X (.Compare a [.Lt] [b] pos) (tT C (mCmp (gI fun i j => decide (i < j)) ma mb)) := s_cmpT op_lt gI_ok ha hb (nomark _)
theorem t_gt (ha : PE X a (tM C ma)) (hb : PE X b (tM C mb)) : PT X (.Compare a [.Gt] [b] pos) (tT C (mCmp (gI fun i j => decide (j < i)) ma mb)) := s_cmpT op_gt gI_ok ha hb (nomark _)
theorem t_isN (ha : PE X a (tM C ma)) (hb : PE X b (tM C mb)) : PT X (.Compare a [.Is] [b] pos) (tT C (mCmp gIsN ma mb)) := s_cmpT op_isN gIsN_ok ha hb (nomark _)
theorem t_in (ha : PE X a (tM C ma)) (hb : PE X b (tM C mb)) (hm : behindInMarks .In b = false) : PT X (.Compare a [.In] [b] pos) (tT C (mCmp (gIn false) ma mb)) := s_cmpT op_in_seq gIn_ok ha hb hm
theorem t_notIn (ha : PE X a (tM C ma)) (hb : PE X b (tM C mb)) (hm : behindInMarks .NotIn b = false) : PT X (.Compare a [.NotIn] [b] pos) (tT C (mCmp (gIn true) ma mb)) := s_cmpT op_notIn_seq gIn_ok ha hb hm
theorem v_eq (B : Bd k X C) (ha : PE X a (tM C ma)) (hb : PE X b (tM C mb)) : PE X (.Compare a [.Eq] [b] pos) (tM C (bV (mCmp gEq ma mb))) := s_cmp (op_eqD B.rm.hu) gEq_ok ha hb (nomark _)
theorem v_le (ha : PE X a (tM C ma)) (hb : PE X b (tM C mb)) : PE X (.Compare a [.LtE] [b] pos) (tM C (bV (mCmp (gI fun i j => decide (i ≤ j)) ma mb))) := s_cmp op_le gI_ok ha hb (nomark _)
theorem v_gt (ha : PE X a (tM C ma)) (hb : PE X b (tM C mb)) : PE X (.Compare a [.Gt] [b] pos) (tM C (bV (mCmp (gI fun i j => decide (j < i)) ma mb))) := s_cmp op_gt gI_ok ha hb (nomark _)
theorem v_ge (ha : PE X a (tM C ma)) (hb : PE X b (tM C mb)) : PE X (.Compare a [.GtE] [b] pos) (tM C (bV (mCmp (gI fun i j => decide (j ≤ i)) ma mb))) := s_cmp op_ge gI_ok ha hb (nomark _)
theorem v_isN (ha : PE X a (tM C ma)) (hb : PE X b (tM C mb)) : PE X (.Compare a [.Is] [b] pos) (tM C (bV (mCmp gIsN ma mb))) := s_cmp op_isN gIsN_ok ha hb (nomark _)
theorem v_notN (ha : PE X a (tM C ma)) (hb : PE X b (tM C mb)) : PE X (.Compare a [.IsNot] [b] pos) (tM C (bV (mCmp gNotN ma mb))) := s_cmp op_notN gNotN_ok ha hb (nomark _)
theorem v_in (ha : PE X a (tM C ma)) (hb : PE X b (tM C mb)) (hm : behindInMarks .In b = false) : PE X (.Compare a [.In] [b] pos) (tM C (bV (mCmp (gIn false) ma mb))) := s_cmp op_in_seq gIn_ok ha hb hm
/-! ### built-in functions -/
abbrev NA (X : Cx) (es : List Expr) (pos : Pos) : Prop := (backTo pos (starEach es X.env)).any (·.1) = false
theorem k_len (B : Bd k X C) (hg : Gl X "len") (hm : X.mg "len" = none) (ha : PA X [a] (tAs C mas)) (he : starEach [a] X.env = (false, eval a X.env) :: starEach [] X.env := by rfl) (hpl : NA X [] pos := by rfl) : PE X (.Call (.Name "len" p) [a] [] pos) (tM C (mCal gLen mas)) :=
  s_callB call_len (gLen_ok B.hK) hg hm boot_len ha (by decide) (by decide) he hpl
theorem k_abs (hg : Gl X "abs") (hm : X.mg "abs" = none) (ha : PA X [a] (tAs C mas)) (he : starEach [a] X.env = (false, eval a X.env) :: starEach [] X.env := by rfl) (hpl : NA X [] pos := by rfl) : PE X (.Call (.Name "abs" p) [a] [] pos) (tM C (mCal (g1 fAbs) mas)) :=
  s_callB (c_abs (X := X) (C := C)).1 (c_abs (X := X) (C := C)).2 hg hm (by decide +kernel) ha (by decide) (by decide) he hpl
theorem k_max (B : Bd k X C) (hg : Gl X "max") (hm : X.mg "max" = none) (ha : PA X [a, b] (tAs C mas)) (he : starEach [a, b] X.env = (false, eval a X.env) :: starEach [b] X.env := by rfl) (hpl : NA X [b] pos := by rfl) : PE X (.Call (.Name "max" p) [a, b] [] pos) (tM C (mCal (gII fun i j => if j > i then j else i) mas)) :=
  s_callB (call_max2 B.cm) (gII_ok fun i j H Q q => ⟨i, j, rfl, q⟩) hg hm (by decide +kernel) ha (by decide) (by decide) he hpl
theorem k_min (B : Bd k X C) (hg : Gl X "min") (hm : X.mg "min" = none) (ha : PA X [a, b] (tAs C mas)) (he : starEach [a, b] X.env = (false, eval a X.env) :: starEach [b] X.env := by rfl) (hpl : NA X [b] pos := by rfl) : PE X (.Call (.Name "min" p) [a, b] [] pos) (tM C (mCal (gII fun i j => if j < i then j else i) mas)) :=
  s_callB (call_min2 B.cm) (gII_ok fun i j H Q q => ⟨i, j, rfl, q⟩) hg hm (by decide +kernel) ha (by decide) (by decide) he hpl
theorem k_all (B : Bd k X C) (hg : Gl X "all") (hm : X.mg "all" = none) (ha : PA X [a] (tAs C mas)) (he : starEach [a] X.env = (false, eval a X.env) :: starEach [] X.env := by rfl) (hpl : NA X [] pos := by rfl) : PE X (.Call (.Name "all" p) [a] [] pos) (tM C (mCal (g1 fAll) mas)) :=
  s_callB (cr_all B.cm) fAll_ok hg hm (by decide +kernel) ha (by decide) (by decide) he hpl
theorem k_repr (B : Bd k X C) (hS : SysK X.K) (hg : Gl X "repr") (hm : X.mg "repr" = none) (ha : PA X [a] (tAs C mas)) (he : starEach [a] X.env = (false, eval a X.env) :: starEach [] X.env := by rfl) (hpl : NA X [] pos := by rfl) : PE X (.Call (.Name "repr" p) [a] [] pos) (tM C (mCal (g1 fRepr) mas)) :=
  s_callB (cr_repr hS B.rm.hu B.rm.gd) fRepr_ok hg hm (by decide +kernel) ha (by decide) (by decide) he hpl
theorem k_int (hg : Gl X "int") (hm : X.mg "int" = none) (ha : PA X [a] (tAs C mas)) (he : starEach [a] X.env = (false, eval a X.env) :: starEach [] X.env := by rfl) (hpl : NA X [] pos := by rfl) : PE X (.Call (.Name "int" p) [a] [] pos) (tM C (mCal (g1 fInt) mas)) :=
  s_callTy call_int1 fInt_ok hg hm (by decide +kernel) ha (by decide) (by decide) he hpl
theorem k_list (hg : Gl X "list") (hm : X.mg "list" = none) (ha : PA X [a] (tAs C mas)) (he : starEach [a] X.env = (false, eval a X.env) :: starEach [] X.env := by rfl) (hpl : NA X [] pos := by rfl) : PE X (.Call (.Name "list" p) [a] [] pos) (tM C (mCal (g1 fList) mas)) :=
  s_callTy call_list_of fList_ok hg hm (by decide +kernel) ha (by decide) (by decide) he hpl
theorem k_tuple (hg : Gl X "tuple") (hm : X.mg "tuple" = none) (ha : PA X [a] (tAs C mas)) (he : starEach [a] X.env = (false, eval a X.env) :: starEach [] X.env := by rfl) (hpl : NA X [] pos := by rfl) : PE X (.Call (.Name "tuple" p) [a] [] pos) (tM C (mCal (g1 fTuple) mas)) :=
  s_callTy call_tuple_of fTuple_ok hg hm (by decide +kernel) ha (by decide) (by decide) he hpl
/-! ### methods of lists -/
theorem y_app {o : Expr} {cpos : Pos} (ho : PE X o (tM C ma)) (he : PE X e (tM C mb)) (hbase : attributeBase o "append" X.env (eval o X.env) = eval o X.env := by rfl)
    (hfew : ((backTo cpos (starEach [e] X.env)).all (fun x => !x.1) && (backToKw cpos (keywordEach [] X.env)).all (fun x => x.1.isSome) && decide ([e].length + ([] : List Keyword).length + (if ([] : List Keyword).isEmpty then 0 else 1) < 30)) = true := by rfl)
    (hline : (apos.endLine == cpos.line) = true := by rfl) (hs : starEach [e] X.env = (false, eval e X.env) :: starEach [] X.env := by rfl) (hpl : NA X [] cpos := by rfl) : PE X (.Call (.Attribute o "append" apos) [e] [] cpos) (tM C (mApp ma mb)) :=
  s_app (pe_bm PySem.F.plainAttrs_list PySem.F.slot_list_append PySem.F.type_list_append mt_append (pv_frz ho) (pa_cons (pv_frz he) pa_nil hs) hbase hfew hline hs hpl)
theorem y_ext {o : Expr} {cpos : Pos} (ho : PE X o (tM C ma)) (he : PE X e (tM C mb)) (hbase : attributeBase o "extend" X.env (eval o X.env) = eval o X.env := by rfl)
    (hfew : ((backTo cpos (starEach [e] X.env)).all (fun x => !x.1) && (backToKw cpos (keywordEach [] X.env)).all (fun x => x.1.isSome) && decide ([e].length + ([] : List Keyword).length + (if ([] : List Keyword).isEmpty then 0 else 1) < 30)) = true := by rfl)
    (hline : (apos.endLine == cpos.line) = true := by rfl) (hs : starEach [e] X.env = (false, eval e X.env) :: starEach [] X.env := by rfl) (hpl : NA X [] cpos := by rfl) : PE X (.Call (.Attribute o "extend" apos) [e] [] cpos) (tM C (mExt ma mb)) :=
  s_ext (pe_bm PySem.F.plainAttrs_list PySem.F.slot_list_extend PySem.F.type_list_extend mt_extend (pv_frz ho) (pa_cons (pv_frz he) pa_nil hs) hbase hfew hline hs hpl)
theorem y_pop {o : Expr} {cpos : Pos} (ho : PE X o (tM C ma)) (hbase : attributeBase o "pop" X.env (eval o X.env) = eval o X.env := by rfl) (hline : (apos.endLine == cpos.line) = true := by rfl) : PE X (.Call (.Attribute o "pop" apos) [] [] cpos) (tM C (mPop ma)) :=
  s_pop (pe_bm0 PySem.F.plainAttrs_list PySem.F.slot_list_pop PySem.F.type_list_pop mt_pop (pv_frz ho) hbase hline)
end
/-! ### defs by the head's facts -/
def Df (K : PySem.W.Frag) (mg : Str → Option Value) (x : Str) (st : Stmt) : Prop := ∃ f fd, FunD K x x (defArgs st) (defBody st) (defScope st) [] [] f fd ∧ mg x = some (.ref f)
section
variable {P : Program} {w : World} {K : PySem.W.Frag} {mg : Str → Option Value} {base : Heap} {k : Nat} {x : Str} {N ps : List Str} {sb : Sv} {st : Stmt}
theorem fn_def {f : Addr} {fd : FuncData} (F : FunD K x x (defArgs st) (defBody st) (defScope st) [] [] f fd) (S : FnScope N ps (defScope st))
    (body : ∀ (cdv : Value) (f : Addr) (A : Around) (outer : List Env) (s : Shared) (H : Hp) (E : XK), Bd k (cxOf (L2.CX P w) P w K mg base N x (defScope st) f cdv A outer s H E) (Cn.ofE ⟨K, w⟩ mg E) →
      PSs (cxOf (L2.CX P w) P w K mg base N x (defScope st) f cdv A outer s H E) (defBody st) (tS (Cn.ofE ⟨K, w⟩ mg E) sb)) : FnC P w K mg base (k + 1) f fd ps (bodyF N.length ps.length sb) := by
  obtain ⟨oc, od, dV, kV, doc, pm, an, cdv, ct, osl, rfl, lk, hcd, hD, hK⟩ := F.ex
  rcases hD with ⟨_, rfl⟩ | ⟨e, _⟩
  · exact fn_of (st := st) ⟨⟨oc, od, kV, doc, pm, an, cdv, ct, osl, rfl, lk, hcd⟩, F.kp⟩ S fun cdv A outer s H E B => body cdv f A outer s H E B
  · exact absurd rfl e
theorem kn_def (D : Df K mg x st) (S : FnScope N ps (defScope st))
    (hb : ∀ (kV doc pm : Value) (an : Option Addr) (cdv ct : Value) (us : List Value), us.length = ps.length → bindArgs (PySem.W.fnOf x x (defArgs st) (defBody st) (defScope st) .none kV doc pm an cdv ct) ⟨us, []⟩ = pure (ps.zip us))
    (body : ∀ (cdv : Value) (f : Addr) (A : Around) (outer : List Env) (s : Shared) (H : Hp) (E : XK), Bd k (cxOf (L2.CX P w) P w K mg base N x (defScope st) f cdv A outer s H E) (Cn.ofE ⟨K, w⟩ mg E) →
      PSs (cxOf (L2.CX P w) P w K mg base N x (defScope st) f cdv A outer s H E) (defBody st) (tS (Cn.ofE ⟨K, w⟩ mg E) sb)) : Kn P w K mg base x (k + 1) (bodyF N.length ps.length sb) := by
  obtain ⟨f, fd, F, hm⟩ := D
  exact ⟨f, fd, ps, hm, F.kp, F.bindsN hb, fn_def F S body⟩
end
end Cp
/-! Cq: texts times ints, join, enumerate over lists and tuples. -/
namespace Cp
open PySem L2 PySem.Spec
section
variable {X : Cx} {C : Cn} {k j : Nat} {x : Str} {p pos apos cpos : Pos} {e a b c : Expr} {es : List Expr} {m ma mb mc : Ev} {mas : En → Sto → Res (List Vl)} {Q : VK} {μ : Mu} {F H : Hp} {st : Sto}
/-! ### a text times an int -/
def rMulS : R2 := fun x y H Q => ∃ i k, x = .str i ∧ y = .int k ∧ -(2 ^ 63) ≤ k ∧ k < 2 ^ 63 ∧ i.length * k.toNat ≤ sizeLine ∧ Q (.str (Txt.mul i k)) H
theorem mulOk_of {i : Str} {k : Int} (h1 : -(2 ^ 63) ≤ k) (h2 : k < 2 ^ 63) (hz : i.length * k.toNat ≤ sizeLine) : MulOk i k := by
  have hs : sizeLine = 16777216 := rfl
  refine ⟨?_, fun h3 _ => ?_, fun _ _ => ?_⟩
  · rw [Bool.or_eq_false_iff]; exact ⟨decide_eq_false (by omega), decide_eq_false (by omega)⟩
  · have hk : (k.toNat : Int) = k := Int.toNat_of_nonneg (by omega)
    have h4 : (i.length : Int) * k ≤ 16777216 := by
      rw [hs] at hz
      have h5 : ((i.length * k.toNat : Nat) : Int) ≤ ((16777216 : Nat) : Int) := Int.ofNat_le.mpr hz
      rw [Int.natCast_mul, hk] at h5
      exact h5
    have := Int.le_ediv_of_mul_le (a := (i.length : Int)) (b := 2 ^ 63 - 1) (c := k) (by omega) (by omega)
    omega
  · unfold Builtin.Str.tooLong
    exact decide_eq_false (by omega)
theorem op_mulS : OpR X (binaryOp .Mult) rMulS := by
  intro pins s σ H x y v u Q I rx ry h
  obtain ⟨i, k, rfl, rfl, h1, h2, hz, q⟩ := h
  obtain ⟨t, rfl⟩ := rx
  obtain ⟨t', rfl⟩ := ry
  exact SB.mul (mulOk_of h1 h2 hz) fun t'' tk => ⟨.str (Txt.mul i k), H, I.tok _, ⟨_, rfl⟩, q⟩
def fMulS : PyData → PyData → Option Rv
  | .str i, .int k => if -(2 ^ 63) ≤ k ∧ k < 2 ^ 63 ∧ i.length * k.toNat ≤ sizeLine then some (.d (.str (Txt.mul i k))) else none
  | _, _ => none
theorem fMulS_ok : BinOk C rMulS fMulS := by
  intro a b res v u μ F H st Q s va vb e h
  unfold fMulS at e
  split at e
  · split at e
    · rename_i hh
      cases e
      exact ⟨_, _, va.str, vb.int, hh.1, hh.2.1, hh.2.2, fin_d s h (.str _)⟩
    · cases e
  · cases e
def fMulA (a b : PyData) : Option Rv := match fMul a b with
  | some z => some z
  | none => fMulS a b
theorem s_mulA (ha : PE X a (tM C ma)) (hb : PE X b (tM C mb)) : PE X (.BinOp a .Mult b pos) (tM C (mBin fMulA ma mb)) := s_bin ((op_mulW.or (op_rep.or (op_repT.or op_repT2))).or op_mulS) (fMul_ok.or fMulS_ok) ha hb
/-! ### join -/
def strsD : List PyData → Option (List Str)
  | [] => some []
  | .str x :: r => match strsD r with
    | some xs => some (x :: xs)
    | none => none
  | _ :: _ => none
def fJoin (a b : PyData) : Option Rv := match a, itemsD b with
  | .str z, some ds => match strsD ds with
    | some ys => if (ys.map (·.length)).sum + ys.length * z.length ≤ 16777216 then some (.d (.str (Txt.join z ys))) else none
    | none => none
  | _, _ => none
def mJoin (ma mb : Ev) : Ev := fun ρ st => (mV ma ρ st).bind fun x s1 => match x with
  | .d (.str z) => (mV mb ρ s1).bind fun y s2 => view2 fJoin s2 x y
  | _ => .no
end
/-! ### enumerate of a tuple -/
section
open PyProof.Rows
theorem meets_enumerate_newT (l : Addr) (items : Array Value) (n : Nat) (dct : Option Addr) (sl : Array (Option Value)) :
    Meets (Builtin.«enumerate.__new__» ⟨[.type "enumerate", .ref l], []⟩) (fun _ R s => s.heap.get? l = some { cls := .type "tuple", dict := dct, data := .seq items n, slots := sl } ∧
      R (.ok (.ret (.ref (s.heap.push { cls := .type "tuple_iterator", data := .fields #[.ref l, .int 0 0] }).objs.size)))
        { s with heap := (s.heap.push { cls := .type "tuple_iterator", data := .fields #[.ref l, .int 0 0] }).push { cls := .type "enumerate", data := .fields #[.none, .bool false, .ref s.heap.objs.size, rawInt 0, .none, .none] } }) :=
  .of_wp fun prog w A R s h => by
    obtain ⟨hp, g, d, tk, os⟩ := s; obtain ⟨hl, h⟩ := h
    have hsub := sub_enumerate
    have hL : Heap.IsTuple (Shared.heap ⟨hp, g, d, tk, os⟩) l items := ⟨_, hl, rfl, n, rfl⟩
    wp_walk using AutoSeq1.wpAny_loadPart' hl
    refine wpAny_stack_any fun st => wpAny_pure ?_
    split
    · rename_i c _ _ _ _ _
      cases (c == Value.type "enumerate")
      · wp_walk using AutoSeq1.wpAny_loadPart' hl, wpAny_pyIter_tuple hL
        exact ⟨_, rfl, h⟩
      · wp_walk using AutoSeq1.wpAny_loadPart' hl, wpAny_pyIter_tuple hL
        exact ⟨_, rfl, h⟩
    · wp_walk using AutoSeq1.wpAny_loadPart' hl, wpAny_pyIter_tuple hL
      exact ⟨_, rfl, h⟩
variable {prog : Program} {w : World} {A : Around} {E : Value → Shared → Prop} {s : Shared}
theorem call_enumerate_tup {l : Addr} {items : Array Value} {Q : Value → Shared → Prop} (hL : s.heap.IsTuple l items)
    (h : ∀ h', IsEnum h' (s.heap.objs.size + 1) s.heap.objs.size 0 .none → h'.IsTupleIter s.heap.objs.size l 0 → h'.objs.size = s.heap.objs.size + 2 →
      (∀ b o, s.heap.get? b = some o → h'.get? b = some o) → Q (.ref (s.heap.objs.size + 1)) { s with heap := h' }) :
    wpAny (model prog w) A (call (.type "enumerate") [.ref l]) Q E s := by
  obtain ⟨⟨c, dct, dt, sl⟩, hl, hc, n, hd⟩ := hL
  replace hc : c = .type "tuple" := hc
  replace hd : dt = .seq items n := hd
  subst hc hd
  refine callType_new F.called_enumerate (by decide) (F.typeCall_enumerate_1 _) (F.newCall_enumerate_1 _) (fun obj => F.args_object_init_2 obj _) F.entry_enumerate_new
    (meets_enumerate_newT l items n dct sl) ⟨hl, ?_⟩
  have hz : (s.heap.push { cls := .type "tuple_iterator", data := .fields #[.ref l, .int 0 0] }).objs.size = s.heap.objs.size + 1 := Heap.size_push ..
  show _ ∧ _
  rw [hz]
  have he : IsEnum ((s.heap.push { cls := .type "tuple_iterator", data := .fields #[.ref l, .int 0 0] }).push
      { cls := .type "enumerate", data := .fields #[.none, .bool false, .ref s.heap.objs.size, rawInt 0, .none, .none] }) (s.heap.objs.size + 1) s.heap.objs.size 0 .none := by
    have := Heap.get?_push_size (s.heap.push { cls := .type "tuple_iterator", data := .fields #[.ref l, .int 0 0] })
      (o := { cls := .type "enumerate", data := .fields #[.none, .bool false, .ref s.heap.objs.size, rawInt 0, .none, .none] }) rfl
    rw [hz] at this; exact this
  refine ⟨⟨_, he, rfl⟩, h _ he ⟨_, Heap.get?_push_of_some _ (Heap.get?_push_size _ rfl), rfl, rfl⟩ (by rw [Heap.size_push, hz]) fun b o x => Heap.get?_push_of_some _ (Heap.get?_push_of_some _ x)⟩
/-- the tuple at a, each item in a new pair -/
def IteT (K : PySem.W.Frag) (a : Addr) : It :=
  ⟨fun i H => ∃ (xs : List V) (x : V), SqT K H a xs ∧ xs[i]? = some x, fun i H v H' => ∃ T x, v = .ref T ∧ H T = none ∧ H' = upd H T (.tup [.int (i : Nat), x]) ∧ ∀ xs, SqT K H a xs → xs[i]? = some x, fun i H => ∃ xs : List V, SqT K H a xs ∧ xs.length ≤ i⟩
theorem turn_enumT {P : Program} {w : World} {K : PySem.W.Frag} {elts : List Expr} {kk : Nat} {tpos : Pos} (a e it : Addr) (hai : a ≠ it) (hae : a ≠ e) :
    Turn P w K (.Tuple elts kk tpos) (IteT K a) [e, it] e (fun i h => (∃ old, IsEnum h e it ((i : Nat) : Int) old) ∧ h.IsTupleIter it a i ∧ e ≠ it) where
  mem := by simp
  obj := fun i h st b hb => by
    obtain ⟨⟨old, he⟩, ⟨o, ho, hc, hd⟩, _⟩ := st
    have e' : b = e ∨ b = it := by simpa using hb
    rcases e' with z | z
    · rw [z]; exact ⟨_, he, fun v q => nomatch q⟩
    · rw [z]; exact ⟨o, ho, fun v q => by rw [hd] at q; cases q⟩
  keep := fun i h h' st k => let ⟨⟨old, he⟩, hi, hne⟩ := st; ⟨⟨old, k e (by simp) _ he⟩, hi.at fun o q => k it (by simp) o q, hne⟩
  item := by
    intro X hP hw hK hc i pins s σ H E I hf st hg
    subst hP hw hK
    obtain ⟨⟨old, he⟩, hit, hne⟩ := st
    obtain ⟨xs, x, hq, hx⟩ := hg
    obtain ⟨its, rv, p, hz⟩ := I.tuple hq
    obtain ⟨u, hu, ru⟩ := rv.get hx
    have hel : e < s.heap.objs.size := Heap.lt_size he
    have hil : it < s.heap.objs.size := by obtain ⟨_, q, _⟩ := hit; exact Heap.lt_size q
    have hlt : i < its.toArray.size := by
      obtain ⟨z, _⟩ := List.getElem?_eq_some_iff.mp hu
      rw [List.size_toArray]; exact z
    have pt : s.heap.IsTuple a its.toArray := p
    refine wpAny_pyNext_enum_itemD (Draws.tuple (prog := X.prog) (w := X.w) (A := X.A.in1) (I.ok.hd hc) it a hai its.toArray) he ⟨hit, pt⟩ hlt hne (by simp [hne, Ne.symm hae]) fun x2 h' tk hp ho hit' hT hsz hk => ?_
    obtain rfl : u = x2 := by
      have : its.toArray[i]? = some u := by simpa using hu
      rw [this] at hp; cases hp; rfl
    refine ⟨_, rfl, wpAny_letOwnedTupleGo_enum (s := { s with heap := h', toks := tk + 1 }) ho fun h'' he' sb => ?_⟩
    have hT2 : h''.get? s.heap.objs.size = some { cls := .type "tuple", data := .seq #[.int i tk, u] } := (sb.2 _ (Nat.ne_of_gt hel)).trans hT
    have new : ObjOk X.prog X.w (upd H s.heap.objs.size (.tup [.int (i : Nat), x])) h'' s.heap.objs.size (.tup [.int (i : Nat), x]) :=
      ⟨by show 2 ≤ sizeLine; decide, [.int i tk, u], .cons ⟨_, rfl⟩ (.cons ru .nil), ⟨_, hT2, rfl, _, rfl⟩⟩
    have I1 : Inv X pins σ (upd H s.heap.objs.size (.tup [.int (i : Nat), x])) { s with heap := h'', toks := tk + 1 } :=
      I.turnedNew (ch := [e, it]) (fun b ob hb q => (sb.2 b (fun z => hb (by simp [z]))).trans (hk b ob (fun z => hb (by simp [z])) (fun z => hb (by simp [z])) q)) hf (Nat.le_refl _) new
    refine ⟨.ref s.heap.objs.size, _, I1, rfl, ⟨_, x, rfl, I.hok.fresh (Nat.le_refl _), rfl, fun ys hy => by rw [I.tuple_inj hy hq]; exact hx⟩, ⟨⟨u, ?_⟩, hit'.1.at fun o q => (sb.2 it (Ne.symm hne)).trans q, hne⟩, fun b hb => ?_⟩
    · have e1 : ((i + 1 : Nat) : Int) = (i : Int) + 1 := by omega
      rw [e1]; exact he'
    · have hb' : b < s.heap.objs.size := by
        have e' : b = e ∨ b = it := by simpa using hb
        rcases e' with z | z
        · rw [z]; exact hel
        · rw [z]; exact hil
      rw [upd_ne (Nat.ne_of_lt hb')]
      exact (hf b hb).1
  done := by
    intro X hP hw hK hc i pins s σ H E I hf st hg
    subst hP hw hK
    obtain ⟨⟨old, he⟩, hit, hne⟩ := st
    obtain ⟨xs, hq, hx⟩ := hg
    obtain ⟨its, rv, p, hz⟩ := I.tuple hq
    obtain ⟨f0, f1, f2, f3, f4, f5⟩ := hf it (by simp)
    have hl := rv.length
    have pt : s.heap.IsTuple a its.toArray := p
    have D := Draws.tuple (prog := X.prog) (w := X.w) (A := X.A.in1) (I.ok.hd hc) it a hai its.toArray
    have hT : s.TypeIs (.ref e) "enumerate" := ⟨_, he, rfl⟩
    unfold pyNext
    refine wpAny_bind (wpAny_attempt (wpAny_callSpecial?_slot (name := Str.ofString "__next__") hT F.slot_enumerate_next
      (wpAny_call_entry F.slot_enumerate_next hT F.entry_enumerate_next ?_ (F.args_enumerate_next_1 _))))
    show wpAny _ _ (field (.ref e) 2 >>= _) _ _ _
    refine wpAny_bind (wpAny_field he rfl (x := .ref it) rfl ?_)
    refine wpAny_bind (wpAny_nextOf_tuple_end (I.ok.hd hc) hit pt (by simp; omega) fun h' x he' hx' => ?_)
    obtain ⟨o, ho, hcc⟩ := hx'
    refine wpAny_bind (wpAny_isInstance (T := "StopIteration") (b := true) ⟨o, ho, hcc⟩ isSubtype_stop ?_)
    exact wpAny_pure ⟨rfl, I.turned (t' := s.toks) (fun b o hb q => he' b o hb q) f0 f1 f3 f4 f5⟩
  self := fun A i s Q E st h => let ⟨⟨_, he⟩, _⟩ := st; wpAny_pyIter_enum he h
def iEnumA (K : PySem.W.Frag) (ta : TA) : TI := fun σ H R => ta σ H fun vs H1 => ∃ a xs, vs = [.ref a] ∧ ((SqL K H1 a xs ∧ R (Ite K a) H1) ∨ (SqT K H1 a xs ∧ R (IteT K a) H1))
theorem pi_enumA {X : Cx} {e : Expr} {ta : TA} {p pos tpos : Pos} {elts : List Expr} {kk : Nat} (hg : Gl X "enumerate") (hm : X.mg "enumerate" = none) (ha : PA X [e] ta) (hs : starEach [e] X.env = [(false, eval e X.env)] := by rfl) :
    PI X (.Tuple elts kk tpos) (.Call (.Name "enumerate" p) [e] [] pos) (iEnumA X.K ta) := by
  refine ⟨fun pins s σ H R I h => ?_⟩
  refine Call_ (ld_blt I hg hm boot_enumerate (PyProof.Rows.callWith_type1 (thn (ha.run pos pins s σ H _ I h) fun us s1 ⟨vs, H1, I1, r1, q1⟩ => ?_) hs rfl))
  obtain ⟨a, xs, ex, q⟩ := q1
  subst ex
  cases r1 with
  | cons r rr =>
    cases rr
    cases r
    have fr : ∀ b, b ∈ [s1.heap.objs.size + 1, s1.heap.objs.size] → FpOk X pins H1 b := fun b hb => by
      have e' : b = s1.heap.objs.size + 1 ∨ b = s1.heap.objs.size := by simpa using hb
      have hle : s1.heap.objs.size ≤ b := by
        rcases e' with z | z
        · rw [z]; exact Nat.le_add_right _ _
        · rw [z]; exact Nat.le_refl _
      exact I1.fpOk hle (I1.hok.fresh hle)
    rcases q with ⟨hq, q⟩ | ⟨hq, q⟩
    · obtain ⟨its, rv, p', hz⟩ := I1.list hq
      refine call_enumerate_list p'.isList fun h' he hit hsz hk => wpAny_pyIter_enum he ?_
      have I2 : Inv X pins σ H1 { s1 with heap := h' } := I1.kept (t' := s1.toks) hk
      exact ⟨s1.heap.objs.size + 1, [s1.heap.objs.size + 1, s1.heap.objs.size], _, _, H1, rfl, I2, turn_enum a (s1.heap.objs.size + 1) s1.heap.objs.size, ⟨⟨.none, he⟩, hit, Nat.succ_ne_self _⟩, fr, q⟩
    · obtain ⟨its, rv, p', hz⟩ := I1.tuple hq
      have pt : s1.heap.IsTuple a its.toArray := p'
      have hal : a < s1.heap.objs.size := by obtain ⟨o, ho, _⟩ := id pt; exact Heap.lt_size ho
      refine call_enumerate_tup pt fun h' he hit hsz hk => wpAny_pyIter_enum he ?_
      have I2 : Inv X pins σ H1 { s1 with heap := h' } := I1.kept (t' := s1.toks) hk
      exact ⟨s1.heap.objs.size + 1, [s1.heap.objs.size + 1, s1.heap.objs.size], _, _, H1, rfl, I2, turn_enumT a (s1.heap.objs.size + 1) s1.heap.objs.size (Nat.ne_of_lt hal) (Nat.ne_of_lt (Nat.lt_succ_of_lt hal)), ⟨⟨.none, he⟩, hit, Nat.succ_ne_self _⟩, fr, q⟩
end
section
variable {X : Cx} {C : Cn} {p pos tpos : Pos} {e a b : Expr} {μ : Mu} {F H : Hp} {st : Sto} {mas : En → Sto → Res (List Vl)} {elts : List Expr} {kk : Nat}
def enumF : Nat → List PyData → List PyData
  | _, [] => []
  | i, d :: r => .tuple [.int (i : Nat), d] :: enumF (i + 1) r
theorem enumF_get : ∀ (ds : List PyData) (j i : Nat), (enumF j ds)[i]? = ds[i]?.map fun d => .tuple [.int ((j + i : Nat) : Int), d]
  | [], _, _ => rfl
  | d :: r, j, 0 => rfl
  | d :: r, j, i + 1 => by
    show (enumF (j + 1) r)[i]? = r[i]?.map _
    rw [enumF_get r (j + 1) i]
    congr 1
    funext d
    have : j + 1 + i = j + (i + 1) := by omega
    rw [this]
theorem enumF_len : ∀ (ds : List PyData) (j : Nat), (enumF j ds).length = ds.length
  | [], _ => rfl
  | d :: r, j => by show (enumF (j + 1) r).length + 1 = r.length + 1; rw [enumF_len]
/-- the source of enumerate -/
def srcEn (s : Sto) (xs : List Vl) : Option Src := match xs with
  | [.c k] => match s[k]? with
    | some (.l xs) => some (enumF 0 xs, some (k, xs))
    | _ => none
  | [.d (.list xs)] => some (enumF 0 xs, none)
  | [.d (.tuple xs)] => some (enumF 0 xs, none)
  | _ => none
def iEn (ma : En → Sto → Res (List Vl)) : En → Sto → Res Src := fun ρ st => (ma ρ st).bind fun xs s => okO (srcEn s xs) s
theorem SR.tupled {K : Kw} (r1 : SR K μ F H st) {T : Addr} {x y : V} {d d' : PyData} (hT : H T = none) (h : Dq K F x d) (h' : Dq K F y d') :
    ∃ F2, Ext μ F H μ F2 (upd H T (.tup [x, y])) ∧ SR K μ F2 (upd H T (.tup [x, y])) st ∧ Dq K F2 (.ref T) (.tuple [d, d']) := by
  obtain ⟨s1, x1⟩ := r1.newly (o := .tup [x, y]) hT
  have hd := r1.dead hT
  obtain ⟨s2, x2, sm⟩ := s1.freeze x1 r1.sub hT upd_same hd.1 hd.2
  exact ⟨_, x2, s2, .tup (.inl upd_same) (.cons (h.same sm) (.cons (h'.same sm) .nil))⟩
theorem wk_enum {K : PySem.W.Frag} {q : Addr} {ds : List PyData} {g : Option (Nat × List PyData)} (hx : ∀ μ1 F1 H1 st1, Sx μ F μ1 F1 → SR C.K μ1 F1 H1 st1 → Grd g (enumF 0 ds) st1 → ∃ ys, H1 q = some (.lst ys) ∧ DqAll C.K F1 ys ds) : Wk C.K (Ite K q) (enumF 0 ds) g μ F := by
  refine ⟨fun i μ1 F1 H1 st1 d x1 r1 k1 e => ?_, fun μ1 F1 H1 st1 x1 r1 k1 => ?_⟩
  · obtain ⟨ys, g1, g2⟩ := hx μ1 F1 H1 st1 x1 r1 k1
    rw [enumF_get] at e
    obtain ⟨d', e', rfl⟩ := Option.map_eq_some_iff.mp e
    obtain ⟨v, g3, g4⟩ := g2.get e'
    refine ⟨⟨ys, v, SqL.of g1, g3⟩, fun x H2 ⟨T, x', e1, e2, e3, e4⟩ => ?_⟩
    subst e1 e3
    have := e4 ys (SqL.of g1)
    rw [g3] at this
    cases this
    rw [Nat.zero_add]
    exact r1.tupled e2 (.int _) g4
  · obtain ⟨ys, g1, g2⟩ := hx μ1 F1 H1 st1 x1 r1 k1
    exact ⟨ys, SqL.of g1, by rw [enumF_len]; exact Nat.le_of_eq g2.length⟩
theorem wk_enumT {K : PySem.W.Frag} {xs : List V} {q : Addr} {ds : List PyData} {g : Option (Nat × List PyData)} (h1 : Rd F q (.tup xs)) (h2 : DqAll C.K F xs ds) : Wk C.K (IteT K q) (enumF 0 ds) g μ F := by
  refine ⟨fun i μ1 F1 H1 st1 d x1 r1 k1 e => ?_, fun μ1 F1 H1 st1 x1 r1 k1 => ?_⟩
  · have g1 : SqT K H1 q xs := SqT.rd r1.sub (same_rd x1.same h1)
    rw [enumF_get] at e
    obtain ⟨d', e', rfl⟩ := Option.map_eq_some_iff.mp e
    obtain ⟨v, g3, g4⟩ := (h2.same x1.same).get e'
    refine ⟨⟨xs, v, g1, g3⟩, fun x H2 ⟨T, x', e1, e2, e3, e4⟩ => ?_⟩
    subst e1 e3
    have := e4 xs (g1)
    rw [g3] at this
    cases this
    rw [Nat.zero_add]
    exact r1.tupled e2 (.int _) g4
  · exact ⟨xs, SqT.rd r1.sub (same_rd x1.same h1), by rw [enumF_len]; exact Nat.le_of_eq h2.length⟩
theorem i_enum (hg : Gl X "enumerate") (hm : X.mg "enumerate" = none) (ha : PA X [e] (tAs C mas)) (hs : starEach [e] X.env = [(false, eval e X.env)] := by rfl) : PI X (.Tuple elts kk tpos) (.Call (.Name "enumerate" p) [e] [] pos) (tI C (iEn mas)) :=
  (pi_enumA hg hm ha hs).imp fun σ H R ⟨ρ, st, μ, F, h1, h2, h3⟩ => ⟨ρ, st, μ, F, h1, h2, Post.bindA gW_lat h3 fun x s v μ1 F1 H1 x1 r1 k1 h4 => by
    cases q0 : srcEn s x with
    | none => simp only [q0, okO] at h4; exact False.elim h4
    | some sr =>
      simp only [q0, okO] at h4
      cases x with
      | nil => cases q0
      | cons y r =>
        cases r with
        | cons _ _ => cases y with
          | d z => cases z <;> cases q0
          | _ => cases q0
        | nil =>
          obtain ⟨v, rfl, k2⟩ := k1.one
          cases y with
          | s _ => cases q0
          | o _ => cases q0
          | c k =>
            cases q : s[k]? with
            | none => simp only [srcEn, q] at q0; cases q0
            | some cl =>
              cases cl with
              | m _ => simp only [srcEn, q] at q0; cases q0
              | l xs =>
                simp only [srcEn, q] at q0
                cases q0
                obtain ⟨pp, hp, rfl⟩ := k2
                obtain ⟨p', o', g1, g2, ys, rfl, g3⟩ := r1.cell k _ q
                rw [hp] at g1; cases g1
                refine ⟨pp, ys, rfl, .inl ⟨SqL.of g2, h4 _ μ1 F1 H1 Ext.refl r1 (wk_enum fun μ2 F2 H2 st2 x2 r2 k2 => ?_)⟩⟩
                obtain ⟨p2, o2, e1, e2, zs, rfl, e3⟩ := r2.cell k _ k2
                rw [x2.get hp] at e1; cases e1
                exact ⟨zs, e2, e3⟩
          | d z =>
            cases z with
            | list xs =>
              cases q0
              cases (show Dq C.K F1 v (.list xs) from k2) with
              | lst q1 q2 => exact ⟨_, _, rfl, .inl ⟨SqL.of (r1.sub _ _ q1), h4 _ μ1 F1 H1 Ext.refl r1 (wk_enum fun μ2 F2 H2 st2 x2 r2 k2 => ⟨_, r2.sub _ _ (x2.same _ _ q1), q2.same x2.same⟩)⟩⟩
            | tuple xs =>
              cases q0
              cases (show Dq C.K F1 v (.tuple xs) from k2) with
              | tup q1 q2 => exact ⟨_, _, rfl, .inr ⟨SqT.rd r1.sub q1, h4 _ μ1 F1 H1 Ext.refl r1 (wk_enumT q1 q2)⟩⟩
            | _ => cases q0⟩
end
end Cp
/-! Cr: constants of the module; sorted(set(ints)). -/
namespace Cp
open PySem L2 PySem.Spec
section
variable {X : Cx} {C : Cn} {x : Str} {pos : Pos}
theorem s_gs {z : Str} (hg : Gl X x) (h : ∃ t, X.mg x = some (.str z t)) (hd : (x == ("__debug__" : Str)) = false := by decide) : PE X (.Name x pos) (tM C (mK (.str z))) :=
  let ⟨t, h⟩ := h
  s_const (pe_glob (v := .str z) hg h ⟨t, rfl⟩ hd) fun _ => .str z
theorem s_gi {i : Int} (hg : Gl X x) (h : ∃ t, X.mg x = some (.int i t)) (hd : (x == ("__debug__" : Str)) = false := by decide) : PE X (.Name x pos) (tM C (mK (.int i))) :=
  let ⟨t, h⟩ := h
  s_const (pe_glob (v := .int i) hg h ⟨t, rfl⟩ hd) fun _ => .int i
end
end Cp
/-! Cm: what a meaning comes to, rule by rule (weakest preconditions), for the plain laws. -/
namespace Cp
open PySem L2
def WVe {α : Type} (E : Er → Sto → Prop) (r : Res α) (P : α → Sto → Prop) : Prop := match r with
  | .ok a s => P a s
  | .er e s => E e s
  | .no => False
def WO {α : Type} (o : Option α) (P : α → Prop) : Prop := match o with
  | some a => P a
  | none => False
def WSe (E : Er → Sto → Prop) (r : RS) (N B C : En → Sto → Prop) (R : Rv → Sto → Prop) : Prop := match r with
  | .nx ρ s => N ρ s
  | .bk ρ s => B ρ s
  | .ct ρ s => C ρ s
  | .rt r s => R r s
  | .er e s => E e s
  | .no => False
abbrev noE : Er → Sto → Prop := fun _ _ => False
/-- no error comes -/
@[simp] theorem noE_take (n : Nat) : (fun (e : Er) (s2 : Sto) => noE e (s2.take n)) = noE := rfl
section
variable {E : Er → Sto → Prop} {α β : Type} {P : α → Sto → Prop} {st : Sto} {ρ : En} {N B C : En → Sto → Prop} {R : Rv → Sto → Prop}
@[simp] theorem WO_some (a : α) (P : α → Prop) : WO (some a) P = P a := rfl
@[simp] theorem WO_none (P : α → Prop) : WO none P = False := rfl
@[simp] theorem WO_ite (c : Prop) [Decidable c] (a : α) (P : α → Prop) : WO (if c then some a else none) P = (c ∧ P a) := by by_cases h : c <;> simp [h]
@[simp] theorem WO_map (f : α → β) (o : Option α) (P : β → Prop) : WO (o.map f) P = WO o fun a => P (f a) := by cases o <;> rfl
@[simp] theorem WV_ok (a : α) : WVe E (.ok a st) P = P a st := rfl
@[simp] theorem WV_no : WVe E (.no : Res α) P = False := rfl
@[simp] theorem WV_bind (r : Res α) (f : α → Sto → Res β) (P : β → Sto → Prop) : WVe E (r.bind f) P = WVe E r fun a s => WVe E (f a s) P := by cases r <;> rfl
theorem WV_mono {r : Res α} {P Q : α → Sto → Prop} (h : WVe E r P) (w : ∀ a s, P a s → Q a s) : WVe E r Q := by cases r with
  | ok a s => exact w a s h
  | er e s => exact h
  | no => exact h
theorem WV_ex {r : Res α} (h : WVe noE r P) : ∃ a s, r = .ok a s ∧ P a s := by cases r with
  | ok a s => exact ⟨a, s, rfl, h⟩
  | er e s => exact False.elim h
  | no => exact False.elim h
@[simp] theorem WV_okO (o : Option α) : WVe E (okO o st) P = WO o fun a => P a st := by cases o <;> rfl
@[simp] theorem WV_okB (o : Option Bool) (P : Bool → Sto → Prop) : WVe E (okB o st) P = WO o fun a => P a st := by cases o <;> rfl
theorem WS_mono {r : RS} {N' B' C' : En → Sto → Prop} {R' : Rv → Sto → Prop} (h : WSe E r N B C R) (n : ∀ ρ s, N ρ s → N' ρ s) (b : ∀ ρ s, B ρ s → B' ρ s) (c : ∀ ρ s, C ρ s → C' ρ s) (q : ∀ ρ s, R ρ s → R' ρ s) : WSe E r N' B' C' R' := by
  cases r with
  | nx ρ s => exact n ρ s h
  | bk ρ s => exact b ρ s h
  | ct ρ s => exact c ρ s h
  | rt r s => exact q r s h
  | er e s => exact h
  | no => exact h
@[simp] theorem WS_toS (r : Res α) (k : α → Sto → RS) : WSe E (r.toS k) N B C R = WVe E r fun a s => WSe E (k a s) N B C R := by cases r <;> rfl
@[simp] theorem WS_nx (s : Sto) : WSe E (.nx ρ s) N B C R = N ρ s := rfl
@[simp] theorem WS_rt (r : Rv) (s : Sto) : WSe E (.rt r s) N B C R = R r s := rfl
@[simp] theorem WS_bk (s : Sto) : WSe E (.bk ρ s) N B C R = B ρ s := rfl
@[simp] theorem WS_ct (s : Sto) : WSe E (.ct ρ s) N B C R = C ρ s := rfl
@[simp] theorem WS_no : WSe E .no N B C R = False := rfl
/-! ### expressions -/
variable {m ma mb : Ev} {mas : En → Sto → Res (List Vl)} {PE : Rv → Sto → Prop} {PV : Vl → Sto → Prop} {PB : Bool → Sto → Prop} {PA : List Vl → Sto → Prop} {ca cb : En → Sto → Res Bool}
@[simp] theorem W_mV : WVe E (mV m ρ st) PV = WVe E (m ρ st) fun r s => PV (frz r) s := by unfold mV; rw [WV_bind]; rfl
/-- a value that nobody writes again -/
def given (r : Rv) (s : Sto) (P : Vl → Sto → Prop) : Prop := match r with
  | .c k => (match s[k]? with
    | some (.l xs) => P (.d (.list xs)) (s.set k gone)
    | _ => False)
  | r => P (frz r) s
@[simp] theorem given_d (c : PyData) (s : Sto) (P : Vl → Sto → Prop) : given (.d c) s P = P (.d c) s := rfl
@[simp] theorem given_n (c : Cl) (s : Sto) (P : Vl → Sto → Prop) : given (.n c) s P = P (frz (.n c)) s := rfl
@[simp] theorem given_c (k : Nat) (s : Sto) (P : Vl → Sto → Prop) : given (.c k) s P = match s[k]? with
    | some (.l xs) => P (.d (.list xs)) (s.set k gone)
    | _ => False := rfl
@[simp] theorem W_mVz : WVe E (mVz m ρ st) PV = WVe E (m ρ st) fun r s => given r s PV := by
  unfold mVz; rw [WV_bind]
  congr 1; funext r s
  cases r with
  | c k =>
    show WVe E (match s[k]? with
      | some (.l xs) => .ok (.d (.list xs)) (s.set k gone)
      | _ => .no) PV = match s[k]? with
      | some (.l xs) => PV (.d (.list xs)) (s.set k gone)
      | _ => False
    cases s[k]? with
    | none => rfl
    | some c => cases c <;> rfl
  | _ => rfl
/-- a value that is kept: a new object becomes a cell -/
def kept (r : Rv) (s : Sto) (P : Vl → Sto → Prop) : Prop := match r with
  | .n c => P (.c s.length) (s ++ [c])
  | r => P (frz r) s
@[simp] theorem kept_n (c : Cl) (s : Sto) (P : Vl → Sto → Prop) : kept (.n c) s P = P (.c s.length) (s ++ [c]) := rfl
@[simp] theorem kept_d (c : PyData) (s : Sto) (P : Vl → Sto → Prop) : kept (.d c) s P = P (.d c) s := rfl
@[simp] theorem kept_c (c : Nat) (s : Sto) (P : Vl → Sto → Prop) : kept (.c c) s P = P (.c c) s := rfl
@[simp] theorem W_mVc : WVe E (mVc m ρ st) PV = WVe E (m ρ st) fun r s => kept r s PV := by
  unfold mVc; rw [WV_bind]
  congr 1; funext r s
  cases r <;> rfl
@[simp] theorem frz_d (x : PyData) : frz (.d x) = .d x := rfl
@[simp] theorem frz_c (x : Nat) : frz (.c x) = .c x := rfl
@[simp] theorem frz_s (x : List Int) : frz (.s x) = .s x := rfl
@[simp] theorem frz_o (x : Ob) : frz (.o x) = .o x := rfl
@[simp] theorem frz_l (x : List PyData) : frz (.n (.l x)) = .d (.list x) := rfl
@[simp] theorem of_d (x : PyData) : Rv.of (.d x) = .d x := rfl
@[simp] theorem of_c (x : Nat) : Rv.of (.c x) = .c x := rfl
@[simp] theorem of_s (x : List Int) : Rv.of (.s x) = .s x := rfl
@[simp] theorem of_o (x : Ob) : Rv.of (.o x) = .o x := rfl
@[simp] theorem frz_of (x : Vl) : frz (Rv.of x) = x := by cases x <;> rfl
@[simp] theorem kept_of (x : Vl) (s : Sto) (P : Vl → Sto → Prop) : kept (Rv.of x) s P = P x s := by cases x <;> rfl
@[simp] theorem view_d (x : PyData) : view st (.d x) = some x := rfl
@[simp] theorem view_c (i : Nat) : view st (.c i) = match st[i]? with
  | some (.l xs) => some (.list xs)
  | some (.m kvs) => if isGone (.m kvs) then none else some (.dict kvs)
  | none => none := rfl
@[simp] theorem W_mK (x : PyData) : WVe E (mK x ρ st) PE = PE (.d x) st := rfl
@[simp] theorem W_mN (i : Nat) : WVe E (mN i ρ st) PE = WO (ρ[i]?) fun o => WO o fun x => PE (Rv.of x) st := by
  unfold mN
  cases h : ρ[i]? with
  | none => rfl
  | some o => cases o <;> rfl
@[simp] theorem W_mBin (f : PyData → PyData → Option Rv) : WVe E (mBin f ma mb ρ st) PE = WVe E (ma ρ st) fun r1 s1 => WVe E (mb ρ s1) fun r2 s2 => WO (view s2 (frz r1)) fun x => WO (view s2 (frz r2)) fun y => WO (f x y) fun r => PE r s2 := by
  unfold mBin; rw [WV_bind, W_mV]
  congr 1; funext r1 s1; rw [WV_bind, W_mV]
  congr 1; funext r2 s2
  unfold view2
  cases view s2 (frz r1) with
  | none => rfl
  | some x => cases view s2 (frz r2) with
    | none => rfl
    | some y => simp only [WO_some]; cases f x y <;> rfl
@[simp] theorem W_mSix : WVe E (mSix ma mb ρ st) PE = WVe E (ma ρ st) fun r1 s1 => WVe E (mb ρ s1) fun r2 s2 => match frz r1, frz r2 with
    | .s ns, .d (.int i) => WO (atI ns i) fun k => PE (.d (.int k)) s2
    | _, _ => False := by
  unfold mSix; rw [WV_bind, W_mV]
  congr 1; funext r1 s1; rw [WV_bind, W_mV]
  congr 1; funext r2 s2
  generalize frz r1 = v1
  generalize frz r2 = v2
  cases v1 with
  | s ns =>
    cases v2 with
    | d y =>
      cases y with
      | int i => dsimp only; cases atI ns i <;> rfl
      | _ => rfl
    | _ => rfl
  | _ => rfl
@[simp] theorem W_mCmp (g : PyData → PyData → Option Bool) : WVe E (mCmp g ma mb ρ st) PB = WVe E (ma ρ st) fun r1 s1 => WVe E (mb ρ s1) fun r2 s2 => WO (cmp2 g s2 (frz r1) (frz r2)) fun k => PB k s2 := by
  unfold mCmp; rw [WV_bind, W_mV]
  congr 1; funext r1 s1; rw [WV_bind, W_mV]
  congr 1; funext r2 s2; rw [WV_okB]
@[simp] theorem W_bV : WVe E (bV ca ρ st) PE = WVe E (ca ρ st) fun k s => PE (.d (.bool k)) s := by unfold bV; rw [WV_bind]; rfl
@[simp] theorem W_mCal (g : Sto → List Vl → Option Rv) : WVe E (mCal g mas ρ st) PE = WVe E (mas ρ st) fun xs s => WO (g s xs) fun r => PE r s := by
  unfold mCal; rw [WV_bind]
  congr 1; funext xs s
  cases g s xs <;> rfl
@[simp] theorem W_aNil : WVe E (aNil ρ st) PA = PA [] st := rfl
@[simp] theorem W_aCons {mv : En → Sto → Res Vl} {mr : En → Sto → Res (List Vl)} : WVe E (aCons mv mr ρ st) PA = WVe E (mv ρ st) fun x s1 => WVe E (mr ρ s1) fun xs s2 => PA (x :: xs) s2 := by
  unfold aCons; rw [WV_bind]
  congr 1; funext x s1; rw [WV_bind]; rfl
@[simp] theorem W_mTup : WVe E (mTup mas ρ st) PE = WVe E (mas ρ st) fun xs s => WO (allD xs) fun ds => ds.length ≤ sizeLine ∧ PE (.d (.tuple ds)) s := by
  unfold mTup; rw [WV_bind]
  congr 1; funext xs s
  cases h : allD xs with
  | none => rfl
  | some ds =>
    simp only [WO_some]
    by_cases hl : ds.length ≤ sizeLine
    · simp [hl]
    · simp [hl]
@[simp] theorem W_mLst : WVe E (mLst mas ρ st) PE = WVe E (mas ρ st) fun xs s => WO (allD xs) fun ds => ds.length ≤ sizeLine ∧ PE (.n (.l ds)) s := by
  unfold mLst; rw [WV_bind]
  congr 1; funext xs s
  cases h : allD xs with
  | none => rfl
  | some ds =>
    simp only [WO_some]
    by_cases hl : ds.length ≤ sizeLine
    · simp [hl]
    · simp [hl]
@[simp] theorem allD_nil : allD [] = some [] := rfl
@[simp] theorem allD_cons (x : PyData) (r : List Vl) : allD (.d x :: r) = (allD r).map (x :: ·) := by
  show (match allD r with | some xs => some (x :: xs) | none => none) = _
  cases allD r <;> rfl
@[simp] theorem W_eIf : WVe E (eIf ca ma mb ρ st) PE = WVe E (ca ρ st) fun k s => if k = true then WVe E (ma ρ s) PE else WVe E (mb ρ s) PE := by
  unfold eIf; rw [WV_bind]
  congr 1; funext k s
  cases k <;> simp
@[simp] theorem W_mNeg : WVe E (mNeg m ρ st) PE = WVe E (m ρ st) fun r s => WO ((view s (frz r)).bind fNeg) fun d => PE (.d d) s := by
  unfold mNeg; rw [WV_bind, W_mV]
  congr 1; funext r s
  cases (view s (frz r)).bind fNeg <;> rfl
@[simp] theorem W_mTru : WVe E (mTru m ρ st) PB = WVe E (m ρ st) fun r s => WO ((view s (frz r)).bind truD) fun k => PB k s := by
  unfold mTru; rw [WV_bind, W_mV]
  congr 1; funext r s; rw [WV_okB]
@[simp] theorem W_bNot : WVe E (bNot ca ρ st) PB = WVe E (ca ρ st) fun k s => PB (!k) s := by unfold bNot; rw [WV_bind]; rfl
@[simp] theorem W_bAnd : WVe E (bAnd ca cb ρ st) PB = WVe E (ca ρ st) fun k s => if k = true then WVe E (cb ρ s) PB else PB false s := by
  unfold bAnd; rw [WV_bind]
  congr 1; funext k s
  cases k <;> simp
@[simp] theorem W_bOr : WVe E (bOr ca cb ρ st) PB = WVe E (ca ρ st) fun k s => if k = true then PB true s else WVe E (cb ρ s) PB := by
  unfold bOr; rw [WV_bind]
  congr 1; funext k s
  cases k <;> simp
@[simp] theorem W_eNot : WVe E (eNot ma ρ st) PE = WVe E (ma ρ st) fun r s => match frz r with
    | .d (.bool k) => PE (.d (.bool !k)) s
    | _ => False := by
  unfold eNot; rw [WV_bind, W_mV]
  congr 1; funext r s
  split <;> simp_all
@[simp] theorem W_eAnd : WVe E (eAnd ma mb ρ st) PE = WVe E (ma ρ st) fun r s => match frz r with
    | .d (.bool true) => WVe E (mb ρ s) PE
    | .d (.bool false) => PE (.d (.bool false)) s
    | _ => False := by
  unfold eAnd; rw [WV_bind, W_mV]
  congr 1; funext r s
  split <;> simp_all
@[simp] theorem W_eOr : WVe E (eOr ma mb ρ st) PE = WVe E (ma ρ st) fun r s => match frz r with
    | .d (.bool true) => PE (.d (.bool true)) s
    | .d (.bool false) => WVe E (mb ρ s) PE
    | _ => False := by
  unfold eOr; rw [WV_bind, W_mV]
  congr 1; funext r s
  split <;> simp_all
@[simp] theorem W_mJoin : WVe E (mJoin ma mb ρ st) PE = WVe E (ma ρ st) fun r1 s1 => match frz r1 with
    | .d (.str z) => WVe E (mb ρ s1) fun r2 s2 => WO (view s2 (frz r2)) fun y => WO (fJoin (.str z) y) fun r => PE r s2
    | _ => False := by
  unfold mJoin; rw [WV_bind, W_mV]
  congr 1; funext r1 s1
  generalize frz r1 = v1
  cases v1 with
  | d y =>
    cases y with
    | str z =>
      dsimp only
      rw [WV_bind, W_mV]
      congr 1; funext r2 s2
      unfold view2
      simp only [view_d]
      cases view s2 (frz r2) with
      | none => rfl
      | some y => simp only [WO_some]; cases fJoin (.str _) y <;> rfl
    | _ => rfl
  | _ => rfl
/-- after a call: the callee's cells are forgotten -/
def back (n : Nat) (r : Rv) (s : Sto) (P : Rv → Sto → Prop) : Prop := match r with
  | .c i => if i < n then P (.c i) (s.take n) else WO s[i]? fun c => isGone c = false ∧ P (.n c) (s.take n)
  | r => P r (s.take n)
@[simp] theorem back_d (n : Nat) (x : PyData) (s : Sto) (P : Rv → Sto → Prop) : back n (.d x) s P = P (.d x) (s.take n) := rfl
@[simp] theorem back_n (n : Nat) (x : Cl) (s : Sto) (P : Rv → Sto → Prop) : back n (.n x) s P = P (.n x) (s.take n) := rfl
@[simp] theorem back_c (n : Nat) (i : Nat) (s : Sto) (P : Rv → Sto → Prop) : back n (.c i) s P = if i < n then P (.c i) (s.take n) else WO s[i]? fun c => isGone c = false ∧ P (.n c) (s.take n) := rfl
@[simp] theorem gone_l (xs : List PyData) : isGone (.l xs) = false := rfl
@[simp] theorem W_mCall (sem : Fs) : WVe E (mCall sem mas ρ st) PE = WVe E (mas ρ st) fun xs s => WVe (fun e s2 => E e (s2.take st.length)) (sem xs s) fun r s' => back st.length r s' PE := by
  unfold mCall; rw [WV_bind]
  congr 1; funext xs s
  cases sem xs s with
  | no => rfl
  | er e s => rfl
  | ok r s =>
    cases r with
    | d x => rfl
    | s x => rfl
    | o x => rfl
    | n x => rfl
    | c i =>
      unfold gcR back
      by_cases h : i < st.length
      · simp [h]
      · cases q : s[i]? with
        | none => simp [h, q]
        | some c => cases z : isGone c <;> simp [h, q, z]
theorem W_body (n k : Nat) (b : Sv) (args : List Vl) : WVe E (bodyF n k b args st) PE = (args.length = k ∧ WSe E (b (args.map some ++ List.replicate (n - args.length) none) st) (fun _ s => PE (.d .none) s) (fun _ _ => False) (fun _ _ => False) PE) := by
  unfold bodyF
  by_cases h : args.length = k
  · simp only [h, if_true, true_and]
    cases b (args.map some ++ List.replicate (n - k) none) st <;> rfl
  · simp [h]
@[simp] theorem W_oNone {PO : Option Int → Sto → Prop} : WVe E (oNone ρ st) PO = PO none st := rfl
@[simp] theorem W_oSome {PO : Option Int → Sto → Prop} : WVe E (oSome m ρ st) PO = WVe E (m ρ st) fun r s => match frz r with
    | .d (.int i) => PO (some i) s
    | _ => False := by
  unfold oSome; rw [WV_bind, W_mV]
  congr 1; funext r s
  generalize frz r = v
  cases v with
  | d y => cases y <;> rfl
  | _ => rfl
@[simp] theorem W_mSl {ml mh : En → Sto → Res (Option Int)} : WVe E (mSl ma ml mh ρ st) PE = WVe E (ma ρ st) fun r s1 => WVe E (ml ρ s1) fun l s2 => WVe E (mh ρ s2) fun h s3 => WO (view s3 (frz r)) fun d => WO (fSl d l h) fun r => PE r s3 := by
  unfold mSl; rw [WV_bind, W_mV]
  congr 1; funext r s1; rw [WV_bind]
  congr 1; funext l s2; rw [WV_bind]
  congr 1; funext h s3
  cases view s3 (frz r) with
  | none => rfl
  | some d => simp only [WO_some]; cases fSl d l h <;> rfl
@[simp] theorem fSl_t (xs : List PyData) (l h : Option Int) : fSl (.tuple xs) l h = some (.d (.tuple (cutD xs l h))) := rfl
@[simp] theorem fSl_l (xs : List PyData) (l h : Option Int) : fSl (.list xs) l h = some (.n (.l (cutD xs l h))) := rfl
/-! ### statements -/
variable {sa sb : Sv}
@[simp] theorem W_sNil : WSe E (sNil ρ st) N B C R = N ρ st := rfl
@[simp] theorem W_sSeq : WSe E (sSeq sa sb ρ st) N B C R = WSe E (sa ρ st) (fun ρ' s => WSe E (sb ρ' s) N B C R) B C R := by
  unfold sSeq
  cases sa ρ st <;> rfl
@[simp] theorem W_sAsg (g : Gm) (mv : En → Sto → Res Vl) : WSe E (sAsg g mv ρ st) N B C R = WVe E (mv ρ st) fun x s => WVe E (g x ρ s) fun ρ' s' => N ρ' s' := by
  unfold sAsg; rw [WS_toS]
  congr 1; funext x s; rw [WS_toS]; rfl
@[simp] theorem W_sRet : WSe E (sRet m ρ st) N B C R = WVe E (m ρ st) R := by unfold sRet; rw [WS_toS]; rfl
@[simp] theorem W_sRetN : WSe E (sRetN ρ st) N B C R = R (.d .none) st := rfl
@[simp] theorem W_sExp : WSe E (sExp m ρ st) N B C R = WVe E (m ρ st) fun _ s => N ρ s := by unfold sExp; rw [WS_toS]; rfl
@[simp] theorem W_sIf : WSe E (sIf ca sa sb ρ st) N B C R = WVe E (ca ρ st) fun k s => if k = true then WSe E (sa ρ s) N B C R else WSe E (sb ρ s) N B C R := by
  unfold sIf; rw [WS_toS]
  congr 1; funext k s
  cases k <;> simp
variable {PR : En → Sto → Prop}
@[simp] theorem W_gNm (i : Nat) (x : Vl) : WVe E (gNm i x ρ st) PR = PR (ρ.set i (some x)) st := rfl
@[simp] theorem W_gTp (n : Nat) (r : Gms) (ds : List PyData) : WVe E (gTp n r (.d (.tuple ds)) ρ st) PR = (ds.length = n ∧ WVe E (r ds ρ st) PR) := by
  unfold gTp
  by_cases h : ds.length = n <;> simp [h]
@[simp] theorem W_gNil : WVe E (gNil9 [] ρ st) PR = PR ρ st := rfl
@[simp] theorem W_gCons (g : Gm) (r : Gms) (d : PyData) (ds : List PyData) : WVe E (gCons9 g r (d :: ds) ρ st) PR = WVe E (g (.d d) ρ st) fun ρ' s => WVe E (r ds ρ' s) PR := by
  show WVe E ((g (.d d) ρ st).bind fun ρ' s => r ds ρ' s) PR = _
  rw [WV_bind]
@[simp] theorem W_gPl (d : PyData) : WVe E (gPl ma mb (.d d) ρ st) PR = WVe E (ma ρ st) fun o s1 => WVe E (mb ρ s1) fun i s2 => match frz o, frz i with
    | .c k, .d (.int j) => (match s2[k]? with
      | some (.l xs) => WO (ixN xs.length j) fun n => PR ρ (s2.set k (.l (xs.set n d)))
      | _ => False)
    | _, _ => False := by
  show WVe E ((mV ma ρ st).bind fun o s1 => (mV mb ρ s1).bind fun i s2 => match o, i with
    | .c k, .d (.int j) => match s2[k]? with
      | some (.l xs) => match ixN xs.length j with
        | some n => .ok ρ (s2.set k (.l (xs.set n d)))
        | none => .no
      | _ => .no
    | _, _ => .no) PR = _
  rw [WV_bind, W_mV]
  congr 1; funext o s1; rw [WV_bind, W_mV]
  congr 1; funext i s2
  generalize frz o = v1
  generalize frz i = v2
  cases v1 with
  | c k =>
    cases v2 with
    | d y =>
      cases y with
      | int j =>
        dsimp only
        cases s2[k]? with
        | none => rfl
        | some c =>
          cases c with
          | m _ => rfl
          | l xs => dsimp only; cases ixN xs.length j <;> rfl
      | _ => rfl
    | _ => rfl
  | _ => rfl
@[simp] theorem W_sPar2 (i j : Nat) : WSe E (sPar [i, j] mas ρ st) N B C R = WVe E (mas ρ st) fun xs s => match xs with
    | [x, y] => N ((ρ.set i (some x)).set j (some y)) s
    | _ => False := by
  unfold sPar; rw [WS_toS]
  congr 1; funext xs s
  match xs with
  | [] => rfl
  | [_] => rfl
  | [_, _] => rfl
  | _ :: _ :: _ :: _ => rfl
@[simp] theorem W_sPar3 (i j l : Nat) : WSe E (sPar [i, j, l] mas ρ st) N B C R = WVe E (mas ρ st) fun xs s => match xs with
    | [x, y, z] => N (((ρ.set i (some x)).set j (some y)).set l (some z)) s
    | _ => False := by
  unfold sPar; rw [WS_toS]
  congr 1; funext xs s
  match xs with
  | [] => rfl
  | [_] => rfl
  | [_, _] => rfl
  | [_, _, _] => rfl
  | _ :: _ :: _ :: _ :: _ => rfl
@[simp] theorem W_mApp : WVe E (mApp ma mb ρ st) PE = WVe E (ma ρ st) fun o s1 => WO (lstAt s1 (frz o)) fun _ => WVe E (mb ρ s1) fun y s2 => match frz o, frz y with
    | .c k, .d d => WO (lstAt s2 (.c k)) fun xs => xs.length < sizeLine ∧ PE (.d .none) (s2.set k (.l (xs ++ [d])))
    | _, _ => False := by
  unfold mApp; rw [WV_bind, W_mV]
  congr 1; funext o s1
  cases h : lstAt s1 (frz o) with
  | none => rfl
  | some zs =>
    simp only [WO_some]
    rw [WV_bind, W_mV]
    congr 1; funext y s2
    cases q1 : frz o with
    | d x => rfl
    | s x => rfl
    | o x => rfl
    | c k =>
      cases q2 : frz y with
      | c x => cases lstAt s2 (.c k) <;> rfl
      | s x => cases lstAt s2 (.c k) <;> rfl
      | o x => cases lstAt s2 (.c k) <;> rfl
      | d d =>
        dsimp only
        cases lstAt s2 (.c k) with
        | none => rfl
        | some xs =>
          simp only [WO_some, fApp]
          by_cases hl : xs.length < sizeLine <;> simp [hl]
@[simp] theorem W_mExt : WVe E (mExt ma mb ρ st) PE = WVe E (ma ρ st) fun o s1 => WO (lstAt s1 (frz o)) fun _ => WVe E (mb ρ s1) fun y s2 => match frz o with
    | .c k => WO (lstAt s2 (.c k)) fun xs => WO (view s2 (frz y)) fun d => WO (fExt xs d) fun zs => PE (.d .none) (s2.set k (.l zs))
    | _ => False := by
  unfold mExt; rw [WV_bind, W_mV]
  congr 1; funext o s1
  cases h : lstAt s1 (frz o) with
  | none => rfl
  | some zs =>
    simp only [WO_some]
    rw [WV_bind, W_mV]
    congr 1; funext y s2
    cases q1 : frz o with
    | d x => rfl
    | s x => rfl
    | o x => rfl
    | c k =>
      dsimp only
      cases lstAt s2 (.c k) with
      | none => rfl
      | some xs =>
        simp only [WO_some]
        cases view s2 (frz y) with
        | none => rfl
        | some d => simp only [WO_some]; cases fExt xs d <;> rfl
@[simp] theorem lstAt_c (k : Nat) : lstAt st (.c k) = match st[k]? with
  | some (.l xs) => some xs
  | _ => none := rfl
/-! ### iterations -/
variable {PI : Src → Sto → Prop}
@[simp] theorem W_iOf : WVe E (iOf m ρ st) PI = WVe E (m ρ st) fun r s => WO (srcOf s (frz r)) fun dg => PI dg s := by
  unfold iOf; rw [WV_bind, W_mV]
  congr 1; funext r s; rw [WV_okO]
@[simp] theorem W_iEn : WVe E (iEn mas ρ st) PI = WVe E (mas ρ st) fun xs s => WO (srcEn s xs) fun dg => PI dg s := by
  unfold iEn; rw [WV_bind]
  congr 1; funext xs s; rw [WV_okO]
@[simp] theorem W_iRg1 : WVe E (iRg1 mas ρ st) PI = WVe E (mas ρ st) fun xs s => WO (oneI xs) fun j => rOk 0 j = true ∧ PI (rngD 0 j, none) s := by
  unfold iRg1; rw [WV_bind]
  congr 1; funext xs s
  cases oneI xs with
  | none => rfl
  | some j =>
    simp only [WO_some]
    by_cases hl : rOk 0 j = true <;> simp [hl]
@[simp] theorem W_iRg2 : WVe E (iRg2 mas ρ st) PI = WVe E (mas ρ st) fun xs s => WO (twoI xs) fun j => rOk j.1 j.2 = true ∧ PI (rngD j.1 j.2, none) s := by
  unfold iRg2; rw [WV_bind]
  congr 1; funext xs s
  cases twoI xs with
  | none => rfl
  | some j =>
    simp only [WO_some]
    by_cases hl : rOk j.1 j.2 = true <;> simp [hl]
/-- a loop, by what stands at each turn -/
theorem forGo_by {g : Gm} {b : Sv} {gd : Option (Nat × List PyData)} {all : List PyData} (I : Nat → En → Sto → Prop) (ds : List PyData) (j : Nat) (h0 : I j ρ st) (hg : ∀ i ρ s, I i ρ s → Grd gd all s)
    (hs : ∀ (i : Nat) (d : PyData) (ρ : En) (s : Sto), ds[i]? = some d → I (j + i) ρ s → WVe E (g (.d d) ρ s) fun ρ1 s1 => WSe E (b ρ1 s1) (I (j + i + 1)) N (I (j + i + 1)) R) (he : ∀ ρ s, I (j + ds.length) ρ s → N ρ s) :
    WSe E (forGo g b gd all ds ρ st) N B C R := by
  induction ds generalizing j ρ st with
  | nil =>
    unfold forGo
    rw [if_pos (hg _ _ _ h0)]
    exact he _ _ h0
  | cons d r ih =>
    unfold forGo
    rw [if_pos (hg _ _ _ h0), WS_toS]
    refine WV_mono (hs 0 d ρ st rfl h0) fun ρ1 s1 h1 => ?_
    have next : ∀ ρ2 s2, I (j + 1) ρ2 s2 → WSe E (forGo g b gd all r ρ2 s2) N B C R := fun ρ2 s2 h2 => ih (j + 1) h2 (fun i d ρ s e h => by
      have := hs (i + 1) d ρ s (by simpa using e) (by rw [show j + (i + 1) = j + 1 + i by omega]; exact h)
      rw [show j + (i + 1) + 1 = j + 1 + i + 1 by omega] at this
      exact this) fun ρ s h => he ρ s (by rw [List.length_cons, show j + (r.length + 1) = j + 1 + r.length by omega]; exact h)
    cases q : b ρ1 s1 with
    | nx ρ2 s2 => rw [q] at h1; exact next _ _ h1
    | ct ρ2 s2 => rw [q] at h1; exact next _ _ h1
    | bk ρ2 s2 => rw [q] at h1; exact h1
    | rt v s2 => rw [q] at h1; exact h1
    | er x s2 => rw [q] at h1; exact h1
    | no => rw [q] at h1; exact h1
@[simp] theorem W_sFor (mi : En → Sto → Res Src) (g : Gm) (b : Sv) : WSe E (sFor mi g b ρ st) N B C R = WVe E (mi ρ st) fun dg s => WSe E (forGo g b dg.2 dg.1 dg.1 ρ s) N B C R := by
  unfold sFor; rw [WS_toS]
theorem lcGo_by {g : Gm} {tt : En → Sto → Res Bool} {te : Ev} {gd : Option (Nat × List PyData)} {all : List PyData} {P : List PyData → Sto → Prop} (I : Nat → Sto → List PyData → Prop) (ds : List PyData) (j : Nat) (acc : List PyData) (h0 : I j st acc) (hg : ∀ i s a, I i s a → Grd gd all s)
    (hs : ∀ (i : Nat) (d : PyData) (s : Sto) (a : List PyData), ds[i]? = some d → I (j + i) s a → WVe noE (g (.d d) ρ s) fun ρ1 s1 => WVe noE (tt ρ1 s1) fun k s2 => if k = true then WVe noE (te ρ1 s2) fun r s3 => ∃ y, frz r = .d y ∧ a.length < sizeLine ∧ I (j + i + 1) s3 (a ++ [y]) else I (j + i + 1) s2 a)
    (he : ∀ s a, I (j + ds.length) s a → P a s) : WVe E (lcGo g tt te gd all ρ ds st acc) P := by
  induction ds generalizing j st acc with
  | nil =>
    unfold lcGo
    rw [if_pos (hg _ _ _ h0)]
    exact he _ _ h0
  | cons d r ih =>
    unfold lcGo
    rw [if_pos (hg _ _ _ h0)]
    have h1 := hs 0 d st acc rfl h0
    have next : ∀ s2 a2, I (j + 1) s2 a2 → WVe E (lcGo g tt te gd all ρ r s2 a2) P := fun s2 a2 h2 => ih (j + 1) a2 h2 (fun i d s a e h => by
      have := hs (i + 1) d s a (by simpa using e) (by rw [show j + (i + 1) = j + 1 + i by omega]; exact h)
      rw [show j + (i + 1) + 1 = j + 1 + i + 1 by omega] at this
      exact this) fun s a h => he s a (by rw [List.length_cons, show j + (r.length + 1) = j + 1 + r.length by omega]; exact h)
    cases q : g (.d d) ρ st with
    | ok ρ1 s1 =>
      rw [q, WV_ok] at h1
      simp only []
      cases q2 : tt ρ1 s1 with
      | ok k s2 =>
        rw [q2, WV_ok] at h1
        cases k with
        | false => simp only [Bool.false_eq_true, if_false] at h1; exact next _ _ h1
        | true =>
          simp only [if_true] at h1
          cases q3 : te ρ1 s2 with
          | ok rr s3 =>
            rw [q3, WV_ok] at h1
            obtain ⟨y, e1, e2, e3⟩ := h1
            have e4 : mV te ρ1 s2 = .ok (.d y) s3 := by unfold mV; rw [q3]; show Res.ok (frz rr) s3 = _; rw [e1]
            simp only [e4, if_pos e2]
            exact next _ _ e3
          | er x s2 => rw [q3] at h1; exact False.elim h1
          | no => rw [q3] at h1; exact False.elim h1
      | er x s2 => rw [q2] at h1; exact False.elim h1
      | no => rw [q2] at h1; exact False.elim h1
    | er x s2 => rw [q] at h1; exact False.elim h1
    | no => rw [q] at h1; exact False.elim h1
theorem forGo_n {g : Gm} {b : Sv} {all : List PyData} : WSe E (forGo g b none all [] ρ st) N B C R = N ρ st := by
  rw [forGo, if_pos (show Grd none all st from trivial)]; rfl
theorem forGo_c {g : Gm} {b : Sv} {all r : List PyData} {d : PyData} : WSe E (forGo g b none all (d :: r) ρ st) N B C R = WVe E (g (.d d) ρ st) fun ρ1 s1 => WSe E (b ρ1 s1) (fun ρ2 s2 => WSe E (forGo g b none all r ρ2 s2) N B C R) N (fun ρ2 s2 => WSe E (forGo g b none all r ρ2 s2) N B C R) R := by
  rw [forGo, if_pos (show Grd none all st from trivial), WS_toS]
  congr 1; funext ρ1 s1
  cases b ρ1 s1 <;> rfl
@[simp] theorem W_mLc (mi : En → Sto → Res Src) (g : Gm) (tt : En → Sto → Res Bool) (te : Ev) (vs : List Nat) : WVe E (mLc mi g tt te vs ρ st) PE = WVe E (mi ρ st) fun dg s => WVe E (lcGo g tt te dg.2 dg.1 (wipeE ρ vs) dg.1 s []) fun ys s' => PE (.n (.l ys)) s' := by
  unfold mLc; rw [WV_bind]
  congr 1; funext dg s; rw [WV_bind]; rfl
@[simp] theorem W_mLc2 (mi : En → Sto → Res Src) (g : Gm) (tt : En → Sto → Res Bool) (mi1 : En → Sto → Res Src) (g1 : Gm) (tt1 : En → Sto → Res Bool) (te : Ev) (vs vs1 : List Nat) : WVe E (mLc2 mi g tt mi1 g1 tt1 te vs vs1 ρ st) PE = WVe E (mi ρ st) fun dg s => WVe E (lc2Go g tt mi1 g1 tt1 te dg.2 dg.1 vs1 (wipeE ρ vs) dg.1 s []) fun ys s' => PE (.n (.l ys)) s' := by
  unfold mLc2; rw [WV_bind]
  congr 1; funext dg s; rw [WV_bind]; rfl
@[simp] theorem W_ttY : WVe E (ttY ρ st) PB = PB true st := rfl
@[simp] theorem W_mLr (mi : En → Sto → Res (Int × Int)) : WVe E (mLr mi ρ st) PE = WVe E (mi ρ st) fun ij s => (rOk ij.1 ij.2 = true ∧ (ij.2 - ij.1).toNat ≤ 2 ^ 24) ∧ PE (.n (.l (rngD ij.1 ij.2))) s := by
  unfold mLr; rw [WV_bind]
  congr 1; funext ij s
  by_cases h : rOk ij.1 ij.2 = true ∧ (ij.2 - ij.1).toNat ≤ 2 ^ 24
  · rw [if_pos h]; simp [h]
  · rw [if_neg h]; exact propext ⟨fun z => False.elim z, fun z => h z.1⟩
/-! ### operators at ints, texts -/
@[simp] theorem fAdd_i (i j : Int) : fAdd (.int i) (.int j) = some (.d (.int (i + j))) := rfl
@[simp] theorem fAdd_s (i j : Str) : fAdd (.str i) (.str j) = if i.length + j.length ≤ sizeLine then some (.d (.str (i ++ j))) else none := rfl
@[simp] theorem fAdd_t (i j : List PyData) : fAdd (.tuple i) (.tuple j) = if i.length + j.length ≤ sizeLine then some (.d (.tuple (i ++ j))) else none := rfl
@[simp] theorem fAdd_l (i j : List PyData) : fAdd (.list i) (.list j) = if i.length + j.length ≤ sizeLine then some (.n (.l (i ++ j))) else none := rfl
@[simp] theorem fI_i (p : Int → Int → Bool) (g : Int → Int → Int) (i j : Int) : fI p g (.int i) (.int j) = if p i j = true then some (.d (.int (g i j))) else none := rfl
@[simp] theorem fMulA_i (i j : Int) : fMulA (.int i) (.int j) = if pMul i j = true then some (.d (.int (i * j))) else none := by
  show (match (if pMul i j = true then some (Rv.d (.int (i * j))) else none) with | some z => some z | none => none) = _
  by_cases h : pMul i j = true <;> simp [h]
@[simp] theorem fMulA_s (i : Str) (k : Int) : fMulA (.str i) (.int k) = if -(2 ^ 63) ≤ k ∧ k < 2 ^ 63 ∧ i.length * k.toNat ≤ sizeLine then some (.d (.str (Txt.mul i k))) else none := rfl
@[simp] theorem fIx_l (xs : List PyData) (i : Int) : fIx (.list xs) (.int i) = (atI xs i).map .d := rfl
@[simp] theorem fIx_t (xs : List PyData) (i : Int) : fIx (.tuple xs) (.int i) = (atI xs i).map .d := rfl
@[simp] theorem g1_d (f : PyData → Option Rv) (x : PyData) : g1 f st [.d x] = f x := rfl
@[simp] theorem g1_c (f : PyData → Option Rv) (i : Nat) : g1 f st [.c i] = (view st (.c i)).bind f := by
  show (match view st (.c i) with | some d => f d | none => none) = _
  cases view st (.c i) <;> rfl
@[simp] theorem gLen_s (ns : List Int) : gLen st [.s ns] = some (.d (.int ns.length)) := rfl
@[simp] theorem gLen_d (d : PyData) : gLen st [.d d] = fLen d := rfl
@[simp] theorem gLen_c (i : Nat) : gLen st [.c i] = (view st (.c i)).bind fLen := g1_c fLen i
@[simp] theorem fLen_l (xs : List PyData) : fLen (.list xs) = some (.d (.int xs.length)) := rfl
@[simp] theorem fLen_t (xs : List PyData) : fLen (.tuple xs) = some (.d (.int xs.length)) := rfl
@[simp] theorem gII_i (f : Int → Int → Int) (i j : Int) : gII f st [.d (.int i), .d (.int j)] = some (.d (.int (f i j))) := rfl
@[simp] theorem fAbs_i (i : Int) : fAbs (.int i) = some (.d (.int (if i < 0 then -i else i))) := rfl
@[simp] theorem fInt_i (i : Int) : fInt (.int i) = some (.d (.int i)) := rfl
@[simp] theorem fInt_b (i : Bool) : fInt (.bool i) = some (.d (.int (if i then 1 else 0))) := rfl
/-- the text of an int -/
def txI (i : Int) : Str := Str.ofString (toString i)
@[simp] theorem fStr_i (i : Int) : fStr (.int i) = if i.natAbs.log2 < 1920 then some (.d (.str (txI i))) else none := rfl
@[simp] theorem fTuple_l (xs : List PyData) : fTuple (.list xs) = some (.d (.tuple xs)) := rfl
@[simp] theorem fTuple_t (xs : List PyData) : fTuple (.tuple xs) = some (.d (.tuple xs)) := rfl
@[simp] theorem fList_l (xs : List PyData) : fList (.list xs) = some (.n (.l xs)) := rfl
@[simp] theorem fList_t (xs : List PyData) : fList (.tuple xs) = some (.n (.l xs)) := rfl
@[simp] theorem fNeg_i (i : Int) : fNeg (.int i) = some (.int (-i)) := rfl
@[simp] theorem gI_i (p : Int → Int → Bool) (i j : Int) : gI p (.int i) (.int j) = some (p i j) := rfl
theorem cmp2_of {g : PyData → PyData → Option Bool} {x y : Vl} {a b : PyData} (h1 : view st x = some a) (h2 : view st y = some b) : cmp2 g st x y = g a b := by
  unfold cmp2; rw [h1, h2]
@[simp] theorem cmp2_dd (g : PyData → PyData → Option Bool) (a b : PyData) : cmp2 g st (.d a) (.d b) = g a b := rfl
@[simp] theorem oneI_i (j : Int) : oneI [.d (.int j)] = some j := rfl
@[simp] theorem twoI_i (i j : Int) : twoI [.d (.int i), .d (.int j)] = some (i, j) := rfl
@[simp] theorem srcOf_l (xs : List PyData) : srcOf st (.d (.list xs)) = some (xs, none) := rfl
@[simp] theorem srcOf_tp (xs : List PyData) : srcOf st (.o (.tp xs)) = some (xs, none) := rfl
@[simp] theorem srcOf_t (xs : List PyData) : srcOf st (.d (.tuple xs)) = some (xs, none) := rfl
@[simp] theorem srcEn_l (xs : List PyData) : srcEn st [.d (.list xs)] = some (enumF 0 xs, none) := rfl
@[simp] theorem srcEn_t (xs : List PyData) : srcEn st [.d (.tuple xs)] = some (enumF 0 xs, none) := rfl
@[simp] theorem Grd_none (ds : List PyData) : Grd none ds st = True := rfl
@[simp] theorem atI_zero {α : Type} (x : α) (xs : List α) : atI (x :: xs) 0 = some x := by
  unfold atI ixN
  simp
theorem atI_at {α : Type} {xs : List α} {i : Int} {k : Nat} (h : i = (k : Nat)) (hk : k < xs.length) : atI xs i = xs[k]? := by
  subst h
  unfold atI ixN
  rw [if_pos (by omega), if_pos (by omega)]
  rfl
theorem pMul_of {i j : Int} {a b : Nat} (hi : i.natAbs < 2 ^ a) (hj : j.natAbs < 2 ^ b) (hab : a + b < 1000000) : pMul i j = true := by
  have lg : ∀ (n k : Nat), n < 2 ^ k → n.log2 ≤ k := fun n k h => by
    by_cases hn : n = 0
    · subst hn; simp
    · exact Nat.le_of_lt ((Nat.log2_lt hn).mpr h)
  unfold pMul
  have := lg _ _ hi
  have := lg _ _ hj
  exact decide_eq_true (by omega)
end
end Cp
/-! Cu: the laws' urn: made, drawn from. -/
namespace Cp
open PySem L2
noncomputable def sbU_urn : Sv := (sSeq (sAsg (gNm 2) (mV (mBin fAdd (mBin fMulA (mK (.int 13)) (mN 1)) (mK (.int 5))))) (sSeq (sIf (mCmp (gI fun i j => decide (i < j)) (mN 1) (mCal (gLen) (aCons (mV (mN 0)) aNil))) (sAsg (gNm 2) (mV (mSix (mN 0) (mN 1)))) sNil) (sSeq (sAsg (gNm 3) (mV (mBin fMulA (mBin (fI pPos fun i j => i % j) (mCal (g1 fAbs) (aCons (mV (mN 2)) aNil)) (mBin (fI pPow fun i j => i ^ j.toNat) (mBin (fI pPow fun i j => i ^ j.toNat) (mK (.int 10)) (mK (.int 60))) (mK (.int 5)))) (mCal (g1 fInt) (aCons (mV (bV (mCmp (gI fun i j => decide (j ≤ i)) (mCal (g1 fAbs) (aCons (mV (mN 2)) aNil)) (mBin (fI pPow fun i j => i ^ j.toNat) (mK (.int 10)) (mK (.int 18)))))) aNil))))) (sRet (mLst (aCons (mV (mN 3)) (aCons (mV (mBin (fI pPos fun i j => i % j) (mBin fAdd (mBin fAdd (mBin fMulA (mBin (fI pPos fun i j => i % j) (mN 2) (mK (.int 2305843009213693951))) (mK (.int 69859))) (mBin fMulA (mBin fMulA (mK (.int 5003)) (mN 1)) (mN 1))) (mK (.int 83))) (mK (.int 2305843009213693907)))) (aCons (mV (mK (.int 0))) aNil))))))))
noncomputable def semU_urn : Fs := bodyF 4 2 sbU_urn
noncomputable def sbU_next : Sv := (sSeq (sIf (mCmp (gI fun i j => decide (j < i)) (mBin fIx (mN 0) (mK (.int 0))) (mK (.int 0))) (sSeq (sAsg (gNm 2) (mV (mBin (fI pPos fun i j => i % j) (mBin fIx (mN 0) (mK (.int 0))) (mN 1)))) (sSeq (sAsg (gPl (mN 0) (mK (.int 0))) (mV (mBin (fI pDiv fun i j => i / j) (mBin fIx (mN 0) (mK (.int 0))) (mN 1)))) (sRet (mN 2)))) sNil) (sSeq (sAsg (gPl (mN 0) (mK (.int 2))) (mV (mBin fAdd (mBin fIx (mN 0) (mK (.int 2))) (mK (.int 1))))) (sSeq (sAsg (gNm 3) (mV (mBin (fI pPos fun i j => i % j) (mBin fMulA (mBin fAdd (mBin fAdd (mBin fIx (mN 0) (mK (.int 1))) (mBin fMulA (mBin fMulA (mK (.int 30011)) (mBin fIx (mN 0) (mK (.int 2)))) (mBin fIx (mN 0) (mK (.int 2))))) (mK (.int 19))) (mK (.int 69877))) (mK (.int 2305843009213693921))))) (sSeq (sAsg (gNm 3) (mV (mBin (fI pPos fun i j => i % j) (mBin fMulA (mN 3) (mBin fAdd (mBin fAdd (mBin (fI pPos fun i j => i % j) (mN 3) (mK (.int 1000039))) (mBin fMulA (mK (.int 60013)) (mBin fIx (mN 0) (mK (.int 2))))) (mK (.int 5)))) (mK (.int 2305843009213693951))))) (sRet (mBin (fI pPos fun i j => i % j) (mBin fAdd (mBin (fI pDiv fun i j => i / j) (mN 3) (mK (.int 103))) (mBin (fI pDiv fun i j => i / j) (mN 3) (mK (.int 999979)))) (mN 1)))))))
noncomputable def semU_next : Fs := bodyF 4 2 sbU_next
noncomputable def sbU_of : Sv := (sRet (mBin fIx (mN 1) (mCall semU_next (aCons (mVc (mN 0)) (aCons (mV (mCal (gLen) (aCons (mV (mN 1)) aNil))) aNil)))))
noncomputable def semU_of : Fs := bodyF 2 2 sbU_of
/-- an urn: what is left of the script's own digits, the seed, the turns -/
def urn (a b c : Int) : Cl := .l [.int a, .int b, .int c]
/-- an urn that has been drawn from at most n times -/
def Urn (n : Int) (u : Cl) : Prop := ∃ a b c : Int, u = urn a b c ∧ 0 ≤ a ∧ 0 ≤ b ∧ b < 2 ^ 61 ∧ 0 ≤ c ∧ c ≤ n
theorem Urn.mono {n m : Int} {u : Cl} (h : Urn n u) (k : n ≤ m) : Urn m u := by
  obtain ⟨a, b, c, h1, h2, h3, h4, h5, h6⟩ := h
  exact ⟨a, b, c, h1, h2, h3, h4, h5, Int.le_trans h6 k⟩
section
variable {st : Sto} {P : Rv → Sto → Prop}
theorem own_small (x : Int) (hx : 0 ≤ x) : (x % ((10 ^ 60) ^ 5 : Int)).natAbs < 2 ^ 1000 := by
  have h1 := Int.emod_lt_of_pos x (show (0 : Int) < (10 ^ 60) ^ 5 by decide)
  have h2 := Int.emod_nonneg x (show ((10 ^ 60) ^ 5 : Int) ≠ 0 by decide)
  have h3 : ((10 ^ 60) ^ 5 : Int) < ((2 ^ 1000 : Nat) : Int) := by decide +kernel
  have h4 : ((x % ((10 ^ 60) ^ 5 : Int)).natAbs : Int) < ((2 ^ 1000 : Nat) : Int) := by rw [Int.natAbs_of_nonneg h2]; exact Int.lt_trans h1 h3
  exact Int.ofNat_lt.mp h4
theorem w_urn_fin {cell k : Int} (hk : 0 ≤ k) (hk2 : k ≤ 63) (h : ∀ u, Urn 0 u → P (.n u) st) : pPow 10 60 = true ∧ pPow 1000000000000000000000000000000000000000000000000000000000000 5 = true ∧
    pPos (if cell < 0 then -cell else cell) 1000000000000000000000000000000000000000000000000000000000000000000000000000000000000000000000000000000000000000000000000000000000000000000000000000000000000000000000000000000000000000000000000000000000000000000000000000000000000000000000000000000000000000000000000000000000000000000000000000000000000 = true ∧ pPow 10 18 = true ∧
    pMul ((if cell < 0 then -cell else cell) % 1000000000000000000000000000000000000000000000000000000000000000000000000000000000000000000000000000000000000000000000000000000000000000000000000000000000000000000000000000000000000000000000000000000000000000000000000000000000000000000000000000000000000000000000000000000000000000000000000000000000000)
      (if 1000000000000000000 ≤ if cell < 0 then -cell else cell then 1 else 0) = true ∧ pPos cell 2305843009213693951 = true ∧ pMul (cell % 2305843009213693951) 69859 = true ∧ pMul 5003 k = true ∧ pMul (5003 * k) k = true ∧
    pPos (cell % 2305843009213693951 * 69859 + 5003 * k * k + 83) 2305843009213693907 = true ∧ 3 ≤ sizeLine ∧
    P (Rv.n (Cl.l [PyData.int ((if cell < 0 then -cell else cell) % 1000000000000000000000000000000000000000000000000000000000000000000000000000000000000000000000000000000000000000000000000000000000000000000000000000000000000000000000000000000000000000000000000000000000000000000000000000000000000000000000000000000000000000000000000000000000000000000000000000000000000 *
        if 1000000000000000000 ≤ if cell < 0 then -cell else cell then 1 else 0),
      PyData.int ((cell % 2305843009213693951 * 69859 + 5003 * k * k + 83) % 2305843009213693907), PyData.int 0])) st := by
  have hx : (0 : Int) ≤ if cell < 0 then -cell else cell := by split <;> omega
  have ho := own_small _ hx
  have e1 : ((10 ^ 60) ^ 5 : Int) = 1000000000000000000000000000000000000000000000000000000000000000000000000000000000000000000000000000000000000000000000000000000000000000000000000000000000000000000000000000000000000000000000000000000000000000000000000000000000000000000000000000000000000000000000000000000000000000000000000000000000000 := by decide +kernel
  rw [e1] at ho
  have hn := Int.emod_nonneg (if cell < 0 then -cell else cell) (show (1000000000000000000000000000000000000000000000000000000000000000000000000000000000000000000000000000000000000000000000000000000000000000000000000000000000000000000000000000000000000000000000000000000000000000000000000000000000000000000000000000000000000000000000000000000000000000000000000000000000000 : Int) ≠ 0 by decide)
  generalize (if cell < 0 then -cell else cell) % 1000000000000000000000000000000000000000000000000000000000000000000000000000000000000000000000000000000000000000000000000000000000000000000000000000000000000000000000000000000000000000000000000000000000000000000000000000000000000000000000000000000000000000000000000000000000000000000000000000000000000 = own at ho hn ⊢
  have hm : (if 1000000000000000000 ≤ if cell < 0 then -cell else cell then (1 : Int) else 0) = 0 ∨ (if 1000000000000000000 ≤ if cell < 0 then -cell else cell then (1 : Int) else 0) = 1 := by
    by_cases hh : 1000000000000000000 ≤ if cell < 0 then -cell else cell
    · exact .inr (if_pos hh)
    · exact .inl (if_neg hh)
  generalize (if 1000000000000000000 ≤ if cell < 0 then -cell else cell then (1 : Int) else 0) = bit at hm ⊢
  have c1 := Int.emod_lt_of_pos cell (show (0 : Int) < 2305843009213693951 by decide)
  have c2 := Int.emod_nonneg cell (show (2305843009213693951 : Int) ≠ 0 by decide)
  have d1 := Int.emod_lt_of_pos (cell % 2305843009213693951 * 69859 + 5003 * k * k + 83) (show (0 : Int) < 2305843009213693907 by decide)
  have d2 := Int.emod_nonneg (cell % 2305843009213693951 * 69859 + 5003 * k * k + 83) (show (2305843009213693907 : Int) ≠ 0 by decide)
  refine ⟨by decide +kernel, by decide +kernel, rfl, by decide +kernel, pMul_of (a := 1000) (b := 1) ho (by omega) (by decide), rfl, pMul_of (a := 70) (b := 20) (by omega) (by decide) (by decide), pMul_of (a := 20) (b := 20) (by decide) (by omega) (by decide), pMul_of (a := 40) (b := 20) (by omega) (by omega) (by decide), rfl, by decide, h _ ⟨_, _, 0, rfl, ?_, d2, ?_, Int.le_refl _, Int.le_refl _⟩⟩
  · rcases hm with e | e <;> rw [e] <;> omega
  · exact Int.lt_trans d1 (by decide)
theorem w_urn {ns : List Int} {k : Int} (hk : 0 ≤ k) (hk2 : k ≤ 63) (h : ∀ u, Urn 0 u → P (.n u) st) : WVe noE (semU_urn [.s ns, .d (.int k)] st) P := by
  obtain ⟨j, rfl⟩ : ∃ j : Nat, k = (j : Nat) := ⟨k.toNat, by omega⟩
  unfold semU_urn sbU_urn
  rw [W_body]
  simp
  refine ⟨pMul_of (a := 10) (b := 10) (by omega) (by omega) (by decide), ?_⟩
  split
  · rename_i hl
    have hj : j < ns.length := by omega
    rw [atI_at rfl hj, List.getElem?_eq_getElem hj, WO_some]
    generalize ns[j] = cell
    exact w_urn_fin hk hk2 h
  · exact w_urn_fin hk hk2 h
@[simp] theorem atI_one {α : Type} (x y : α) (xs : List α) : atI (x :: y :: xs) 1 = some y := by
  have := atI_at (xs := x :: y :: xs) (i := 1) (k := 1) rfl (by simp)
  exact this
@[simp] theorem atI_two {α : Type} (x y z : α) (xs : List α) : atI (x :: y :: z :: xs) 2 = some z := by
  have := atI_at (xs := x :: y :: z :: xs) (i := 2) (k := 2) rfl (by simp)
  exact this
@[simp] theorem ixN30 : ixN 3 0 = some 0 := rfl
@[simp] theorem ixN31 : ixN 3 1 = some 1 := rfl
@[simp] theorem ixN32 : ixN 3 2 = some 2 := rfl
theorem WO_atI {xs : List PyData} {i : Int} {P : PyData → Prop} (h0 : 0 ≤ i) (h1 : i < xs.length) (h : ∀ (k : Nat) (d : PyData), i = (k : Nat) → xs[k]? = some d → P d) : WO (atI xs i) P := by
  obtain ⟨k, rfl⟩ : ∃ k : Nat, i = (k : Nat) := ⟨i.toNat, by omega⟩
  have hk : k < xs.length := by omega
  rw [atI_at rfl hk, List.getElem?_eq_getElem hk]
  exact h k _ rfl (List.getElem?_eq_getElem hk)
theorem w_next {i : Nat} {n : Int} {u : Cl} {m : Int} (hu : st[i]? = some u) (hU : Urn m u) (hm : m < 2 ^ 200) (hn : 0 < n) (hn2 : n < 2 ^ 200) (h : ∀ (r : Int) (u' : Cl), 0 ≤ r → r < n → Urn (m + 1) u' → P (.d (.int r)) (st.set i u')) : WVe noE (semU_next [.c i, .d (.int n)] st) P := by
  obtain ⟨a, b, c, rfl, h1, h2, h3, h4, h5⟩ := hU
  unfold semU_next sbU_next
  rw [W_body]
  have hi : i < st.length := (List.getElem?_eq_some_iff.mp hu).1
  have hset : ∀ c, (st.set i c)[i]? = some c := fun c => List.getElem?_set_self hi
  have hm2 : c + 1 < 2 ^ 201 := by omega
  have hsq : 0 ≤ (c + 1) * (c + 1) ∧ (c + 1) * (c + 1) < 2 ^ 402 := by
    have h7 : (0 : Int) ≤ c + 1 := by omega
    refine ⟨Int.mul_nonneg h7 h7, ?_⟩
    have h6 : (c + 1) * (c + 1) ≤ (c + 1) * 2 ^ 201 := Int.mul_le_mul_of_nonneg_left (Int.le_of_lt hm2) h7
    have h8 : (c + 1) * 2 ^ 201 < 2 ^ 201 * 2 ^ 201 := Int.mul_lt_mul_of_pos_right hm2 (by decide)
    have h9 : (2 ^ 201 * 2 ^ 201 : Int) = 2 ^ 402 := by decide +kernel
    omega
  simp [hu, urn, hset]
  split
  · rename_i ha
    have e := Int.emod_lt_of_pos a hn
    have e2 := Int.emod_nonneg a (show n ≠ 0 by omega)
    have e3 : 0 ≤ a / n := Int.ediv_nonneg h1 (Int.le_of_lt hn)
    refine ⟨decide_eq_true hn, ?_, h _ _ e2 e ⟨a / n, b, c, rfl, e3, h2, h3, h4, by omega⟩⟩
    unfold pDiv
    have : n.natAbs < 2 ^ 200 := by omega
    have h6 : n.natAbs ≠ 0 := by omega
    have := (Nat.log2_lt h6).mpr this
    rw [decide_eq_true hn, decide_eq_true (show n.natAbs.log2 < 9000 by omega)]; rfl
  · rename_i ha
    have e0 : a = 0 := by omega
    subst e0
    have q1 : (30011 * (c + 1) * (c + 1) : Int) = 30011 * ((c + 1) * (c + 1)) := Int.mul_assoc ..
    rw [q1]
    generalize (c + 1) * (c + 1) = sq at hsq ⊢
    have k1 := Int.emod_lt_of_pos ((b + 30011 * sq + 19) * 69877) (show (0 : Int) < 2305843009213693921 by decide)
    have k2 := Int.emod_nonneg ((b + 30011 * sq + 19) * 69877) (show (2305843009213693921 : Int) ≠ 0 by decide)
    have k3 : (b + 30011 * sq + 19).natAbs < 2 ^ 420 := by omega
    generalize (b + 30011 * sq + 19) * 69877 % 2305843009213693921 = blend at k1 k2 ⊢
    have k4 := Int.emod_lt_of_pos blend (show (0 : Int) < 1000039 by decide)
    have k5 := Int.emod_nonneg blend (show (1000039 : Int) ≠ 0 by decide)
    have k6 : (blend % 1000039 + 60013 * (c + 1) + 5).natAbs < 2 ^ 220 := by omega
    generalize blend * (blend % 1000039 + 60013 * (c + 1) + 5) % 2305843009213693951 / 103 + blend * (blend % 1000039 + 60013 * (c + 1) + 5) % 2305843009213693951 / 999979 = last
    exact ⟨pMul_of (a := 20) (b := 201) (by decide) (by omega) (by decide), pMul_of (a := 220) (b := 201) (by omega) (by omega) (by decide), pMul_of (a := 420) (b := 20) k3 (by decide) (by decide), rfl, rfl,
      pMul_of (a := 20) (b := 201) (by decide) (by omega) (by decide), pMul_of (a := 62) (b := 220) (by omega) k6 (by decide), rfl, rfl, rfl, decide_eq_true hn,
      h _ _ (Int.emod_nonneg last (by omega)) (Int.emod_lt_of_pos last hn) ⟨0, b, c + 1, rfl, Int.le_refl _, h2, h3, by omega, by omega⟩⟩
@[simp] theorem take_set {α : Type} (s : List α) (i : Nat) (u : α) : (s.set i u).take s.length = s.set i u := List.take_of_length_le (by simp)
@[simp] theorem take_set1 {α : Type} (s : List α) (i : Nat) (u v : α) (hi : i < s.length) : ((s ++ [v]).set i u).take s.length = s.set i u := by rw [List.set_append_left _ _ hi]; exact List.take_left' (by simp)
@[simp] theorem take_app {α : Type} (s t : List α) : (s ++ t).take s.length = s := List.take_left' rfl
@[simp] theorem gr1 {α : Type} {s : List α} {i : Nat} {u c : α} : (s.set i u ++ [c])[s.length]? = some c := by
  rw [List.getElem?_append_right (by simp)]; simp
@[simp] theorem sr1 {α : Type} {s : List α} {i : Nat} {u c d : α} : (s.set i u ++ [c]).set s.length d = s.set i u ++ [d] := by
  rw [List.set_append_right _ _ (by simp)]; simp
@[simp] theorem tk1 {α : Type} {s : List α} {i : Nat} {u c : α} : (s.set i u ++ [c]).take s.length = s.set i u := List.take_left' (by simp)
@[simp] theorem tk2 {α : Type} {s : List α} {i : Nat} {u c : α} : (s.set i u ++ [c]).take (s.length + 1) = s.set i u ++ [c] := List.take_of_length_le (by simp)
theorem rOk_of2 {i j : Int} (h1 : -1000000000000 ≤ i) (h2 : i ≤ 1000000000000) (h3 : -1000000000000 ≤ j) (h4 : j ≤ 1000000000000) : rOk i j = true := by
  unfold rOk
  rw [decide_eq_true (by omega), decide_eq_true (by omega), decide_eq_true (by omega), decide_eq_true (by omega)]; rfl
@[simp] theorem gr0 {α : Type} {s : List α} {c : α} : (s ++ [c])[s.length]? = some c := by simp
theorem rngD_get {lo hi : Int} {i : Nat} {d : PyData} (h : (rngD lo hi)[i]? = some d) : d = .int (lo + i) ∧ (i : Int) < hi - lo := by
  unfold rngD at h
  rw [List.getElem?_map] at h
  obtain ⟨k, h1, rfl⟩ := Option.map_eq_some_iff.mp h
  obtain ⟨h2, h3⟩ := List.getElem?_eq_some_iff.mp h1
  rw [List.getElem_range] at h3
  rw [List.length_range] at h2
  subst h3
  exact ⟨rfl, by omega⟩
/-- one of several -/
theorem w_of {i : Nat} {xs : List PyData} {u : Cl} {m : Int} (hu : st[i]? = some u) (hU : Urn m u) (hm : m < 2 ^ 200) (hx : xs ≠ []) (hx2 : xs.length ≤ sizeLine) (h : ∀ (x : PyData) (u' : Cl), x ∈ xs → Urn (m + 1) u' → P (.d x) (st.set i u')) :
    WVe noE (semU_of [.c i, .d (.list xs)] st) P := by
  unfold semU_of sbU_of
  rw [W_body]
  have hl : 0 < xs.length := List.length_pos_iff.mpr hx
  have hs : sizeLine = 16777216 := rfl
  simp
  refine w_next hu hU hm (by omega) (by omega) fun r u' h0 h1 hU' => ?_
  simp
  exact WO_atI h0 h1 fun k d _ hd => h d u' (List.mem_of_getElem? hd) hU'
end
end Cp
/-! Cw: texts: their lengths, what is shown of data. -/
namespace Cp
open PySem L2
/-- a text of at most n signs -/
def Txs (n : Nat) (x : Str) : Prop := x.length ≤ n ∧ ∀ c ∈ x.cps.toList, c < 0x110000
theorem Txs.mono {n m : Nat} {x : Str} (h : Txs n x) (k : n ≤ m) : Txs m x := ⟨Nat.le_trans h.1 k, h.2⟩
theorem Txs.add {n m : Nat} {x y : Str} (h : Txs n x) (k : Txs m y) : Txs (n + m) (x ++ y) := by
  refine ⟨by rw [strLen_append]; exact Nat.add_le_add h.1 k.1, fun c hc => ?_⟩
  have e : (x ++ y).cps.toList = x.cps.toList ++ y.cps.toList := by
    show (x.cps ++ y.cps).toList = _
    rw [Array.toList_append]
  rw [e, List.mem_append] at hc
  exact hc.elim (h.2 c) (k.2 c)
theorem Txs.ofString {n : Nat} (s : String) (h : s.length ≤ n) : Txs n (Str.ofString s) := by
  rw [Str.ofString_eq_toList]
  refine ⟨?_, fun c hc => ?_⟩
  · show (s.toList.map Char.toNat).toArray.size ≤ n
    rw [List.size_toArray, List.length_map, String.length_toList]; exact h
  · have hc' : c ∈ s.toList.map Char.toNat := by simpa using hc
    obtain ⟨ch, _, rfl⟩ := List.mem_map.mp hc'
    have h := ch.valid
    have e : ch.toNat = ch.val.toNat := rfl
    simp only [UInt32.isValidChar, Nat.isValidChar] at h
    have : ch.val.toNat < 1114112 := by omega
    rw [e]
    exact this
theorem Txs.int {k : Nat} {i : Int} (hk : 0 < k) (h : i.natAbs < 10 ^ k) : Txs (k + 1) (txI i) := Txs.ofString _ (int_text_length_le10 hk h)
theorem Txs.int2 {k : Nat} {i : Int} (hk : 0 < k) (h : i.natAbs.log2 < k) : Txs (k + 1) (Str.ofString (toString i)) := Txs.ofString _ (int_text_length_le hk h)
theorem log_small {i : Int} {k : Nat} (h : i.natAbs < 2 ^ k) (hk : k < 1920) : i.natAbs.log2 < 1920 := by
  by_cases hn : i.natAbs = 0
  · rw [hn]; decide
  · exact Nat.lt_trans ((Nat.log2_lt hn).mpr h) hk
/-! ### what is shown -/
mutual
def siz : PyData → Nat
  | .none | .bool _ => 5
  | .int i => i.natAbs.log2 + 2
  | .str x => 10 * x.length + 2
  | .list xs | .tuple xs => sizAll xs + 3
  | .dict kvs => sizKv kvs + 3
def sizAll : List PyData → Nat
  | [] => 0
  | x :: xs => siz x + 2 + sizAll xs
def sizKv : List (PyData × PyData) → Nat
  | [] => 0
  | (k, v) :: r => siz k + siz v + 4 + sizKv r
end
mutual
def okS : PyData → Prop
  | .none | .bool _ => True
  | .int i => i.natAbs.log2 < 1920
  | .str x => ∀ c ∈ x.cps.toList, c < 0x110000
  | .list xs | .tuple xs => okSs xs
  | .dict _ => False
def okSs : List PyData → Prop
  | [] => True
  | x :: xs => okS x ∧ okSs xs
end
theorem join_len (ts : List Str) : (Str.join ", " ts).length ≤ (ts.map fun t => t.length + 2).sum := by
  induction ts with
  | nil => exact Nat.zero_le _
  | cons t r ih =>
    cases r with
    | nil => show t.length ≤ _; simp
    | cons u r =>
      show (t ++ ", " ++ Str.join ", " (u :: r)).length ≤ _
      rw [strLen_append, strLen_append, List.map_cons, List.sum_cons]
      have e2 : ((", " : String) : Str).length = 2 := rfl
      omega
theorem text_len (ts : List Str) : (PySem.listText ts).length ≤ (ts.map fun t => t.length + 2).sum + 2 := by
  have h : ∀ (ts : List Str) (k : Nat) (acc : Str), (PySem.textFrom k acc ts).length ≤ acc.length + (ts.map fun t => t.length + 2).sum := by
    intro ts
    induction ts with
    | nil => intro k acc; exact Nat.le_add_right _ _
    | cons t r ih =>
      intro k acc
      show (PySem.textFrom (k + 1) (acc ++ (if k > 0 then ", " else "" : String) ++ t) r).length ≤ _
      refine Nat.le_trans (ih _ _) ?_
      rw [strLen_append, strLen_append, List.map_cons, List.sum_cons]
      have e : ((if k > 0 then ", " else "" : String) : Str).length ≤ 2 := by split <;> decide
      omega
  show (PySem.textFrom 0 "[" ts ++ "]").length ≤ _
  rw [strLen_append]
  have := h ts 0 "["
  have e1 : (("[" : String) : Str).length = 1 := rfl
  have e2 : (("]" : String) : Str).length = 1 := rfl
  omega
mutual
theorem shown_ok : ∀ {d : PyData}, okS d → d.showable = true ∧ d.hasDict = false ∧ d.shown.length ≤ siz d
  | .none, _ => ⟨rfl, rfl, by decide⟩
  | .bool b, _ => ⟨rfl, rfl, by cases b <;> decide⟩
  | .int i, h => ⟨decide_eq_true h, rfl, (Txs.int2 (i := i) (k := i.natAbs.log2 + 1) (Nat.succ_pos _) (Nat.lt_succ_self _)).1⟩
  | .str x, h => ⟨rfl, rfl, PySem.StrLaws.reprText_len x fun c hc => Nat.lt_trans (h c hc) (by decide)⟩
  | .list xs, h => by
    obtain ⟨h1, h2, h3⟩ := shown_oks h
    refine ⟨h1, h2, ?_⟩
    show (PySem.listText (PyData.shownAll xs)).length ≤ sizAll xs + 3
    have := text_len (PyData.shownAll xs)
    omega
  | .tuple xs, h => by
    obtain ⟨h1, h2, h3⟩ := shown_oks h
    refine ⟨h1, h2, ?_⟩
    show (("(" : Str) ++ Str.join ", " (PyData.shownAll xs) ++ (if (PyData.shownAll xs).length == 1 then ",)" else ")" : String)).length ≤ sizAll xs + 3
    rw [strLen_append, strLen_append]
    have := join_len (PyData.shownAll xs)
    have e1 : (("(" : String) : Str).length = 1 := rfl
    have e : ((if (PyData.shownAll xs).length == 1 then ",)" else ")" : String) : Str).length ≤ 2 := by split <;> decide
    omega
  | .dict _, h => False.elim h
theorem shown_oks : ∀ {ds : List PyData}, okSs ds → PyData.showableAll ds = true ∧ PyData.hasDictAll ds = false ∧ ((PyData.shownAll ds).map fun t => t.length + 2).sum ≤ sizAll ds
  | [], _ => ⟨rfl, rfl, Nat.le_refl _⟩
  | d :: ds, h => by
    obtain ⟨h1, h2, h3⟩ := shown_ok h.1
    obtain ⟨k1, k2, k3⟩ := shown_oks h.2
    refine ⟨?_, ?_, ?_⟩
    · show (d.showable && PyData.showableAll ds) = true; rw [h1, k1]; rfl
    · show (d.hasDict || PyData.hasDictAll ds) = false; rw [h2, k2]; rfl
    · show ((d.shown :: PyData.shownAll ds).map _).sum ≤ _
      rw [List.map_cons, List.sum_cons]
      show _ ≤ siz d + 2 + sizAll ds
      omega
end
theorem fRepr_at {d : PyData} (h : okS d) (hs : siz d ≤ sizeLine) (hd : d.depth ≤ 60) : fRepr d = some (.d (.str d.shown)) := by
  obtain ⟨h1, h2, h3⟩ := shown_ok h
  have : shw d = true := by
    unfold shw
    rw [h1, h2, decide_eq_true (Nat.le_trans h3 hs), decide_eq_true hd]; rfl
  unfold fRepr
  rw [if_pos this]
theorem sizAll_le {B : Nat} : ∀ {ds : List PyData}, (∀ d ∈ ds, siz d ≤ B) → sizAll ds ≤ ds.length * (B + 2)
  | [], _ => Nat.zero_le _
  | d :: ds, h => by
    have h1 := h d (List.mem_cons_self ..)
    have h2 := sizAll_le (ds := ds) fun e he => h e (List.mem_cons_of_mem _ he)
    show siz d + 2 + sizAll ds ≤ (ds.length + 1) * (B + 2)
    rw [Nat.add_mul]
    omega
theorem okSs_of : ∀ {ds : List PyData}, (∀ d ∈ ds, okS d) → okSs ds
  | [], _ => trivial
  | d :: ds, h => ⟨h d (List.mem_cons_self ..), okSs_of fun e he => h e (List.mem_cons_of_mem _ he)⟩
theorem depthAll_le {B : Nat} : ∀ {ds : List PyData}, (∀ d ∈ ds, d.depth ≤ B) → PyData.depthAll ds ≤ B
  | [], _ => Nat.zero_le _
  | d :: ds, h => Nat.max_le.mpr ⟨h d (List.mem_cons_self ..), depthAll_le fun e he => h e (List.mem_cons_of_mem _ he)⟩
/-! ### signs -/
theorem chr_lt (ch : Char) : ch.toNat < 0x110000 := by
  have h := ch.valid
  have e : ch.toNat = ch.val.toNat := rfl
  simp only [UInt32.isValidChar, Nat.isValidChar] at h
  rw [e]; omega
abbrev Sgn (x : Str) : Prop := ∀ c ∈ x.cps.toList, c < 0x110000
theorem Sgn.add {x y : Str} (h : Sgn x) (k : Sgn y) : Sgn (x ++ y) := fun c hc => by
  have e : (x ++ y).cps.toList = x.cps.toList ++ y.cps.toList := by
    show (x.cps ++ y.cps).toList = _
    rw [Array.toList_append]
  rw [e, List.mem_append] at hc
  exact hc.elim (h c) (k c)
theorem Sgn.lit (s : String) : Sgn (Str.ofString s) := (Txs.ofString (n := s.length) s (Nat.le_refl _)).2
theorem reprChar_lt {q c : Nat} (hc : c < 0x110000) : ∀ d ∈ Builtin.Str.reprChar q c, d < 0x110000 := by
  have hx : ∀ w d, d ∈ List.replicate (w - ((Nat.toDigits 16 c).map Char.toNat).length) 48 ++ (Nat.toDigits 16 c).map Char.toNat → d < 0x110000 := fun w d hd => by
    rcases List.mem_append.mp hd with h | h
    · rw [(List.mem_replicate.mp h).2]; decide
    · obtain ⟨ch, _, rfl⟩ := List.mem_map.mp h; exact chr_lt ch
  intro d hd
  unfold Builtin.Str.reprChar at hd
  simp only [] at hd
  split at hd
  · rcases List.mem_cons.mp hd with rfl | h
    · decide
    · rw [List.mem_singleton.mp h]; exact hc
  split at hd
  · rcases List.mem_cons.mp hd with rfl | h
    · decide
    · rw [List.mem_singleton.mp h]; decide
  split at hd
  · rcases List.mem_cons.mp hd with rfl | h
    · decide
    · rw [List.mem_singleton.mp h]; decide
  split at hd
  · rcases List.mem_cons.mp hd with rfl | h
    · decide
    · rw [List.mem_singleton.mp h]; decide
  split at hd
  · rw [List.mem_singleton.mp hd]; exact hc
  have two : ∀ w b, d ∈ [92, b] ++ (List.replicate (w - ((Nat.toDigits 16 c).map Char.toNat).length) 48 ++ (Nat.toDigits 16 c).map Char.toNat) → b < 0x110000 → d < 0x110000 := fun w b h hb => by
    rcases List.mem_append.mp h with h | h
    · rcases List.mem_cons.mp h with rfl | h
      · decide
      · rw [List.mem_singleton.mp h]; exact hb
    · exact hx w d h
  split at hd
  · exact two 2 120 hd (by decide)
  split at hd
  · exact two 4 117 hd (by decide)
  · exact two 8 85 hd (by decide)
theorem repr_sgn {x : Str} (h : Sgn x) : Sgn (reprText x) := by
  have hq : reprQuote x < 0x110000 := by
    unfold reprQuote
    split <;> decide
  have key : ∀ (l : List Nat) (acc : Array Nat), (∀ c ∈ l, c < 0x110000) → (∀ c ∈ acc.toList, c < 0x110000) → ∀ c ∈ (l.foldl (fun out c => out ++ (Builtin.Str.reprChar (reprQuote x) c).toArray) acc).toList, c < 0x110000 := by
    intro l
    induction l with
    | nil => intro acc _ h2; exact h2
    | cons a r ih =>
      intro acc h1 h2
      refine ih _ (fun c hc => h1 c (List.mem_cons_of_mem _ hc)) fun c hc => ?_
      rw [Array.toList_append, List.mem_append] at hc
      rcases hc with hc | hc
      · exact h2 c hc
      · exact reprChar_lt (h1 a (List.mem_cons_self ..)) c (by simpa using hc)
  intro c hc
  have e : (reprText x).cps.toList = (x.cps.toList.foldl (fun out c => out ++ (Builtin.Str.reprChar (reprQuote x) c).toArray) #[reprQuote x]).toList ++ [reprQuote x] := by
    unfold reprText
    rw [Array.toList_push, ← Array.foldl_toList]
  rw [e, List.mem_append] at hc
  rcases hc with hc | hc
  · refine key _ _ h (fun d hd => ?_) c hc
    have : d = reprQuote x := by simpa using hd
    rw [this]; exact hq
  · rw [List.mem_singleton.mp hc]; exact hq
theorem join_sgn {sep : Str} (hs : Sgn sep) : ∀ {ts : List Str}, (∀ t ∈ ts, Sgn t) → Sgn (Str.join sep ts)
  | [], _ => fun c hc => by simp [Str.join, Str.empty] at hc
  | [t], h => h t (List.mem_cons_self ..)
  | t :: u :: r, h => Sgn.add (Sgn.add (h t (List.mem_cons_self ..)) hs) (join_sgn hs fun z hz => h z (List.mem_cons_of_mem _ hz))
theorem text_sgn {ts : List Str} (h : ∀ t ∈ ts, Sgn t) : Sgn (PySem.listText ts) := by
  have key : ∀ (ts : List Str) (k : Nat) (acc : Str), Sgn acc → (∀ t ∈ ts, Sgn t) → Sgn (PySem.textFrom k acc ts) := by
    intro ts
    induction ts with
    | nil => intro k acc h _; exact h
    | cons t r ih =>
      intro k acc h1 h2
      refine ih (k + 1) _ (Sgn.add (Sgn.add h1 (Sgn.lit _)) (h2 t (List.mem_cons_self ..))) fun z hz => h2 z (List.mem_cons_of_mem _ hz)
  exact Sgn.add (key ts 0 _ (Sgn.lit _) h) (Sgn.lit _)
mutual
theorem shown_sgn : ∀ {d : PyData}, okS d → Sgn d.shown
  | .none, _ => Sgn.lit _
  | .bool b, _ => by cases b <;> exact Sgn.lit _
  | .int i, h => Sgn.lit _
  | .str x, h => repr_sgn h
  | .list xs, h => text_sgn (shown_sgns h)
  | .tuple xs, h => Sgn.add (Sgn.add (Sgn.lit _) (join_sgn (Sgn.lit _) (shown_sgns h))) (Sgn.lit _)
  | .dict _, h => False.elim h
theorem shown_sgns : ∀ {ds : List PyData}, okSs ds → ∀ t ∈ PyData.shownAll ds, Sgn t
  | [], _ => fun t ht => nomatch ht
  | d :: ds, h => fun t ht => by
    rcases List.mem_cons.mp ht with rfl | ht
    · exact shown_sgn h.1
    · exact shown_sgns h.2 t ht
end
/-! ### alike or not -/
mutual
theorem canLay_ok : ∀ {d : PyData}, okS d → d.canLay0 = true
  | .none, _ => rfl
  | .bool b, _ => rfl
  | .int i, h => rfl
  | .str x, h => by
    show x.cps.all (· < 0x110000) = true
    rw [Array.all_eq_true']
    intro c hc
    exact decide_eq_true (h c (by simpa using hc))
  | .list xs, h => canLay_oks h
  | .tuple xs, h => canLay_oks h
  | .dict _, h => False.elim h
theorem canLay_oks : ∀ {ds : List PyData}, okSs ds → PyData.canLayAll0 ds = true
  | [], _ => rfl
  | d :: ds, h => by
    show (d.canLay0 && PyData.canLayAll0 ds) = true
    rw [canLay_ok h.1, canLay_oks h.2]; rfl
end
theorem shaped_ok {d : PyData} (h : okS d) (hd : d.depth ≤ 64) : SeqAt.shaped d = true := by
  unfold SeqAt.shaped
  rw [canLay_ok h, decide_eq_true hd]; rfl
theorem gNe_at {a b : PyData} (ha : okS a) (hb : okS b) (hda : a.depth ≤ 64) (hdb : b.depth ≤ 64) : gNe a b = some (!PyData.eqv a b) := by
  unfold gNe
  rw [shaped_ok ha hda, shaped_ok hb hdb]; rfl
theorem gEq_at {a b : PyData} (ha : okS a) (hb : okS b) (hda : a.depth ≤ 64) (hdb : b.depth ≤ 64) : gEq a b = some (PyData.eqv a b) := by
  unfold gEq
  rw [shaped_ok ha hda, shaped_ok hb hdb]; rfl
mutual
theorem eqv_refl : ∀ {d : PyData}, d.canLay0 = true → PyData.eqv d d = true
  | .none, _ => rfl
  | .bool b, _ => by cases b <;> rfl
  | .int i, _ => by show (i == i) = true; simp
  | .str x, _ => by show (x == x) = true; simp
  | .list xs, h => eqv_refls h
  | .tuple xs, h => eqv_refls h
  | .dict _, h => by cases h
theorem eqv_refls : ∀ {ds : List PyData}, PyData.canLayAll0 ds = true → PyData.eqvAll ds ds = true
  | [], _ => rfl
  | d :: ds, h => by
    have h' : (d.canLay0 && PyData.canLayAll0 ds) = true := h
    rw [Bool.and_eq_true] at h'
    show (PyData.eqv d d && PyData.eqvAll ds ds) = true
    rw [eqv_refl h'.1, eqv_refls h'.2]; rfl
end
theorem gNe_same {d : PyData} (h : SeqAt.shaped d = true) : gNe d d = some false := by
  unfold gNe
  rw [h]
  show some (!PyData.eqv d d) = _
  rw [eqv_refl (SeqAt.canLay_of_shaped h)]; rfl
theorem eqv_str (x y : Str) : PyData.eqv (.str x) (.str y) = decide (x = y) := by
  show (x == y) = _
  by_cases h : x = y <;> simp [h]
theorem gNe_str {x y : Str} (hx : Sgn x) (hy : Sgn y) : gNe (.str x) (.str y) = some (!decide (x = y)) := by
  rw [gNe_at (a := .str x) (b := .str y) hx hy (Nat.zero_le _) (Nat.zero_le _), eqv_str]
theorem gEq_str {x y : Str} (hx : Sgn x) (hy : Sgn y) : gEq (.str x) (.str y) = some (decide (x = y)) := by
  rw [gEq_at (a := .str x) (b := .str y) hx hy (Nat.zero_le _) (Nat.zero_le _), eqv_str]
@[simp] theorem gEq_int (x y : Int) : gEq (.int x) (.int y) = some (decide (x = y)) := by
  unfold gEq
  rw [if_pos (by rfl)]
  have : PyData.eqv (.int x) (.int y) = decide (x = y) := by
    show (x == y) = _
    by_cases h : x = y <;> simp [h]
  rw [this]
end Cp
/-! Ct: isinstance, zip, chains of comparisons. -/
namespace Cp
open PySem L2
section
variable {X : Cx} {C : Cn} {Q : VK} {μ : Mu} {F H : Hp} {st : Sto} {e a b c : Expr} {m ma mb mc : Ev} {pos p p2 tpos : Pos} {mas : En → Sto → Res (List Vl)} {elts : List Expr} {kk : Nat}
/-! ### chains -/
def mChn (g g' : PyData → PyData → Option Bool) (ma mb mc : Ev) : En → Sto → Res Bool := fun ρ st => (mV ma ρ st).bind fun x s1 => (mV mb ρ s1).bind fun y s2 => match cmp2 g s2 x y with
  | some true => (mV mc ρ s2).bind fun z s3 => okB (cmp2 g' s3 y z) s3
  | some false => .ok false s2
  | none => .no
theorem cmp2_ok {r : R2} {g : PyData → PyData → Option Bool} (ok : CmpOk C r g) {x y : Vl} {v u : V} {k : Bool} {R : VK} (s : SR C.K μ F H st) (kx : Vok C.K F μ x v) (ky : Vok C.K F μ y u) (e : cmp2 g st x y = some k) (q : R (.bl k) H) : r v u H R := by
  unfold cmp2 at e
  cases q1 : view st x with
  | none => simp only [q1] at e; cases e
  | some da =>
    cases q2 : view st y with
    | none => simp only [q1, q2] at e; cases e
    | some db =>
      simp only [q1, q2] at e
      exact ok da db k v u μ F H st R s (view_ok s kx q1) (view_ok s ky q2) e q
theorem chn_core {β : Type} {G : β → Sto → Mu → Hp → Hp → Prop} (gl : Lat G) {r r' : R2} {g g' : PyData → PyData → Option Bool} (ok : CmpOk C r g) (ok' : CmpOk C r' g') {σ : St} {ρ : En} {R : VK} (h1 : Eok C.K F μ ρ σ) {kk : Bool → Sto → Res β}
    (h3 : Post (C.at σ) G μ F H ((mChn g g' ma mb mc ρ st).bind kk)) (fin : ∀ k s μ1 F1 H1, Ext μ F H μ1 F1 H1 → SR C.K μ1 F1 H1 s → Post (C.at σ) G μ1 F1 H1 (kk k s) → R (.bl k) H1) :
    PostV (C.at σ) (fun x H1 => tV C (mV mb) σ H1 fun y H2 => r x y H2 fun z H3 => ∃ k, z = .bl k ∧ (if k = true then tV C (mV mc) σ H3 fun w' H4 => r' y w' H4 R else R (.bl false) H3)) μ F H (mV ma ρ st) := by
  have e1 : (mChn g g' ma mb mc ρ st).bind kk = (mV ma ρ st).bind fun x s1 => (mV mb ρ s1).bind fun y s2 => (match cmp2 g s2 x y with
    | some true => (mV mc ρ s2).bind fun z s3 => (okB (cmp2 g' s3 y z) s3).bind kk
    | some false => kk false s2
    | none => .no) := by
    unfold mChn
    cases mV ma ρ st with
    | ok x s1 =>
      simp only [Res.bind]
      cases mV mb ρ s1 with
      | ok y s2 =>
        simp only []
        cases cmp2 g s2 x y with
        | none => rfl
        | some k =>
          cases k with
          | false => rfl
          | true => simp only []; cases mV mc ρ s2 <;> rfl
      | er _ _ => rfl
      | no => rfl
    | er _ _ => rfl
    | no => rfl
  rw [e1] at h3
  refine Post.bindV gl h3 fun x s v μ1 F1 H1 x1 r1 k1 h4 => ⟨ρ, s, μ1, F1, h1.ext x1, r1, Post.bindV gl h4 fun y s2 u μ2 F2 H2 x2 r2 k2 h5 => ?_⟩
  cases q : cmp2 g s2 x y with
  | none => simp only [q] at h5; exact False.elim h5
  | some k =>
    refine cmp2_ok ok r2 (k1.ext x2) k2 q ⟨k, rfl, ?_⟩
    cases k with
    | false =>
      simp only [q] at h5
      simp only [Bool.false_eq_true, if_false]
      exact fin false s2 μ2 F2 H2 (x1.trans x2) r2 h5
    | true =>
      simp only [q] at h5
      simp only [if_true]
      refine ⟨ρ, s2, μ2, F2, (h1.ext x1).ext x2, r2, Post.bindV gl h5 fun z s3 w μ3 F3 H3 x3 r3 k3 h6 => ?_⟩
      cases q3 : cmp2 g' s3 y z with
      | none => simp only [q3, okB] at h6; exact False.elim h6
      | some k' =>
        simp only [q3, okB] at h6
        exact cmp2_ok ok' r3 (k2.ext x3) k3 q3 (fin k' s3 μ3 F3 H3 ((x1.trans x2).trans x3) r3 h6)
theorem s_chn {op op' : CmpOp} {r r' : R2} {g g' : PyData → PyData → Option Bool} (ho : OpR X (compareOp op) r) (ho' : OpR X (compareOp op') r') (ok : CmpOk C r g) (ok' : CmpOk C r' g') (ha : PE X a (tM C ma)) (hb : PE X b (tM C mb)) (hc : PE X c (tM C mc))
    (hm : lastMarks [op, op'] [b, c] = false := by with_unfolding_all rfl) : PE X (.Compare a [op, op'] [b, c] pos) (tM C (bV (mChn g g' ma mb mc))) :=
  (pe_chain ho ho' (pv_frz ha) (pv_frz hb) (pv_frz hc) hm).imp fun σ H Q ⟨ρ, st, μ, F, h1, h2, h3⟩ => ⟨ρ, st, μ, F, h1, h2, chn_core gE_lat ok ok' h1 h3 fun k s μ1 F1 H1 x1 r1 h => fin_d r1 h (.bl k)⟩
/-! ### isinstance -/
def tyD : PyData → String
  | .none => "NoneType"
  | .bool _ => "bool"
  | .int _ => "int"
  | .str _ => "str"
  | .list _ => "list"
  | .tuple _ => "tuple"
  | .dict _ => "dict"
/-- a dict whose keys are not flat (or an instance) -/
def isQ : PyData → Bool
  | .dict kvs => !flK kvs
  | _ => false
@[simp] theorem isQ_none : isQ .none = false := rfl
@[simp] theorem isQ_bool (b : Bool) : isQ (.bool b) = false := rfl
@[simp] theorem isQ_int (b : Int) : isQ (.int b) = false := rfl
@[simp] theorem isQ_str (b : Str) : isQ (.str b) = false := rfl
@[simp] theorem isQ_list (b : List PyData) : isQ (.list b) = false := rfl
@[simp] theorem isQ_tuple (b : List PyData) : isQ (.tuple b) = false := rfl
@[simp] theorem isQ_dict0 : isQ (.dict []) = false := rfl
def kitQ (d : PyData) (T : String) : Option Bool := if isQ d then none else kitB (tyD d) T
theorem kitQ_of {d : PyData} {T : String} {k : Bool} (h : kitQ d T = some k) : isQ d = false ∧ kitB (tyD d) T = some k := by
  unfold kitQ at h
  cases q : isQ d with
  | true => rw [q] at h; cases h
  | false => rw [q] at h; exact ⟨rfl, h⟩
def mIsi (T : String) (ma : Ev) : Ev := fun ρ st => (mV ma ρ st).bind fun x s => match (view s x).bind fun d => kitQ d T with
  | some k => .ok (.d (.bool k)) s
  | none => .no
theorem Vw.ty {K : Kw} {v : V} {d : PyData} (s : Same F H) (h : Vw K F H v d) (hq : isQ d = false) (K' : PySem.W.Frag) : TyX K' H v (.type (tyD d)) := by
  cases d with
  | none => rw [h.non]; exact .base .non
  | bool b => rw [h.bl]; exact .base (.bl b)
  | int b => rw [h.int]; exact .base (.int b)
  | str b => rw [h.str]; exact .base (.str b)
  | list b => obtain ⟨q, xs, rfl, h1, _⟩ := h; exact .base (.lst h1)
  | tuple b =>
    obtain ⟨q, xs, rfl, h1, _⟩ := h.tup
    rcases same_rd s h1 with h1 | ⟨o, h1⟩
    · exact .base (.tup h1)
    · exact .fTuple h1
  | dict b => obtain ⟨q, xs, rfl, h1, _⟩ := h.flat_dict (by simpa [isQ] using hq); exact .base (.dK h1)
theorem boot_isi : bootBuiltins "isinstance" = some (.builtin "isinstance") := by decide +kernel
theorem s_isi {T : String} {y : Str} (hg : Gl X "isinstance") (hm : X.mg "isinstance" = none) (ha : PE X a (tM C ma)) (hg2 : Gl X y) (hm2 : X.mg y = none) (hv : bootBuiltins y = some (.type T)) (hn : y ≠ "__name__" := by decide) (hd : (y == ("__debug__" : Str)) = false := by decide)
    (he : starEach [a, .Name y p2] X.env = (false, eval a X.env) :: starEach [.Name y p2] X.env := by rfl) (hpl : (backTo pos (starEach [.Name y p2] X.env)).any (·.1) = false := by rfl) (he2 : starEach [.Name y p2] X.env = (false, eval (.Name y p2) X.env) :: starEach [] X.env := by rfl) :
    PE X (.Call (.Name "isinstance" p) [a, .Name y p2] [] pos) (tM C (mIsi T ma)) :=
  (pe_callB call_isi hg hm boot_isi (pa_cons (pv_frz ha) (pa_cons (pe_bltn (v := .ty T) hg2 hm2 hv rfl hn hd) pa_nil he2) he) (by decide) (by decide) he hpl).imp fun σ H Q ⟨ρ, st, μ, F, h1, h2, h3⟩ => ⟨ρ, st, μ, F, h1, h2, Post.bindV gE_lat h3 fun x s v μ1 F1 H1 x1 r1 k1 h4 => by
    cases q1 : view s x with
    | none => simp only [q1, Option.bind] at h4; exact False.elim h4
    | some d =>
      cases q2 : kitQ d T with
      | none => simp only [q1, q2, Option.bind] at h4; exact False.elim h4
      | some k =>
        simp only [q1, q2, Option.bind] at h4
        exact ⟨v, .ty T, .type (tyD d), .type T, k, rfl, .ty T, (view_ok r1 k1 q1).ty r1.sub (kitQ_of q2).1 _, kit_ty (kitQ_of q2).2, fin_d r1 h4 (.bl k)⟩⟩
@[simp] theorem W_mIsi {ρ : En} {T : String} {E : Er → Sto → Prop} {P : Rv → Sto → Prop} : WVe E (mIsi T ma ρ st) P = WVe E (ma ρ st) fun r s => WO (view s (frz r)) fun d => isQ d = false ∧ WO (kitB (tyD d) T) fun k => P (.d (.bool k)) s := by
  unfold mIsi; rw [WV_bind, W_mV]
  congr 1; funext r s
  cases view s (frz r) with
  | none => rfl
  | some d => simp only [Option.bind, WO_some, kitQ]; cases isQ d <;> cases kitB (tyD d) T <;> simp <;> rfl
def isT (T : String) (d : PyData) : Bool := tyD d == T || (T == "int" && tyD d == "bool")
theorem kitB_int : ∀ d : PyData, kitB (tyD d) "int" = some (isT "int" d)
  | .none => (show kitB "NoneType" "int" = some false by decide +kernel)
  | .bool _ => (show kitB "bool" "int" = some true by decide +kernel)
  | .int _ => (show kitB "int" "int" = some true by decide +kernel)
  | .str _ => (show kitB "str" "int" = some false by decide +kernel)
  | .list _ => (show kitB "list" "int" = some false by decide +kernel)
  | .tuple _ => (show kitB "tuple" "int" = some false by decide +kernel)
  | .dict _ => (show kitB "dict" "int" = some false by decide +kernel)
theorem kitB_bool : ∀ d : PyData, kitB (tyD d) "bool" = some (isT "bool" d)
  | .none => (show kitB "NoneType" "bool" = some false by decide +kernel)
  | .bool _ => (show kitB "bool" "bool" = some true by decide +kernel)
  | .int _ => (show kitB "int" "bool" = some false by decide +kernel)
  | .str _ => (show kitB "str" "bool" = some false by decide +kernel)
  | .list _ => (show kitB "list" "bool" = some false by decide +kernel)
  | .tuple _ => (show kitB "tuple" "bool" = some false by decide +kernel)
  | .dict _ => (show kitB "dict" "bool" = some false by decide +kernel)
theorem kitB_tuple : ∀ d : PyData, kitB (tyD d) "tuple" = some (isT "tuple" d)
  | .none => (show kitB "NoneType" "tuple" = some false by decide +kernel)
  | .bool _ => (show kitB "bool" "tuple" = some false by decide +kernel)
  | .int _ => (show kitB "int" "tuple" = some false by decide +kernel)
  | .str _ => (show kitB "str" "tuple" = some false by decide +kernel)
  | .list _ => (show kitB "list" "tuple" = some false by decide +kernel)
  | .tuple _ => (show kitB "tuple" "tuple" = some true by decide +kernel)
  | .dict _ => (show kitB "dict" "tuple" = some false by decide +kernel)
@[simp] theorem W_mChn {ρ : En} {g g' : PyData → PyData → Option Bool} {E : Er → Sto → Prop} {P : Bool → Sto → Prop} : WVe E (mChn g g' ma mb mc ρ st) P = WVe E (ma ρ st) fun r1 s1 => WVe E (mb ρ s1) fun r2 s2 => WO (cmp2 g s2 (frz r1) (frz r2)) fun k => if k = true then WVe E (mc ρ s2) fun r3 s3 => WO (cmp2 g' s3 (frz r2) (frz r3)) fun k => P k s3 else P false s2 := by
  unfold mChn; rw [WV_bind, W_mV]
  congr 1; funext r1 s1; rw [WV_bind, W_mV]
  congr 1; funext r2 s2
  cases cmp2 g s2 (frz r1) (frz r2) with
  | none => rfl
  | some k =>
    cases k with
    | false => rfl
    | true =>
      simp only [WO_some, if_true]
      rw [WV_bind, W_mV]
      congr 1; funext r3 s3; rw [WV_okB]
/-! ### zip -/
def zipF : List PyData → List PyData → List PyData
  | a :: as, b :: bs => .tuple [a, b] :: zipF as bs
  | _, _ => []
def srcZp (xs : List Vl) : Option Src := match xs with
  | [.d (.list xs), .d (.list ys)] => some (zipF xs ys, none)
  | [.d (.tuple xs), .d (.tuple ys)] => some (zipF xs ys, none)
  | _ => none
/-- a tuple known whole, as data -/
def tpD : Vl → Vl
  | .o (.tp ds) => .d (.tuple ds)
  | x => x
@[simp] theorem tpD_d (d : PyData) : tpD (.d d) = .d d := rfl
@[simp] theorem tpD_c (i : Nat) : tpD (.c i) = .c i := rfl
@[simp] theorem tpD_tp (ds : List PyData) : tpD (.o (.tp ds)) = .d (.tuple ds) := rfl
def iZp (ma : En → Sto → Res (List Vl)) : En → Sto → Res Src := fun ρ st => (ma ρ st).bind fun xs s => okO (srcZp (xs.map tpD)) s
@[simp] theorem srcZp_l (xs ys : List PyData) : srcZp [.d (.list xs), .d (.list ys)] = some (zipF xs ys, none) := rfl
@[simp] theorem srcZp_t (xs ys : List PyData) : srcZp [.d (.tuple xs), .d (.tuple ys)] = some (zipF xs ys, none) := rfl
@[simp] theorem W_iZp {ρ : En} {P : Src → Sto → Prop} : WVe noE (iZp mas ρ st) P = WVe noE (mas ρ st) fun xs s => WO (srcZp (xs.map tpD)) fun dg => P dg s := by
  unfold iZp; rw [WV_bind]
  congr 1; funext xs s; rw [WV_okO]
end
end Cp
/-! Cd: dicts that are written out. -/
namespace Cp
open PySem L2
section
variable {X : Cx} {C : Cn} {Q : VK} {μ : Mu} {F H : Hp} {st : Sto} {pos : Pos} {keys : List (Option Expr)} {values : List Expr}
def mPairs : List (Ev × Ev) → En → Sto → Res (List (PyData × PyData))
  | [], _, st => .ok [] st
  | (mk, mv) :: r, ρ, st => (mV mk ρ st).bind fun x s1 => (mV mv ρ s1).bind fun y s2 => match x, y with
    | .d a, .d b => (mPairs r ρ s2).bind fun kvs s3 => .ok ((a, b) :: kvs) s3
    | _, _ => .no
abbrev trP (C : Cn) (prs : List (Ev × Ev)) : List (TE × TE) := prs.map fun p => (tV C (mV p.1), tV C (mV p.2))
inductive DqPs (K : Kw) (F : Hp) : List (V × V) → List (PyData × PyData) → Prop
  | nil : DqPs K F [] []
  | cons {x y : V} {a b : PyData} {ps : List (V × V)} {kvs : List (PyData × PyData)} : Dq K F x a → Dq K F y b → DqPs K F ps kvs → DqPs K F ((x, y) :: ps) ((a, b) :: kvs)
abbrev gP (C : Cn) (R : List (V × V) → Hp → Prop) : List (PyData × PyData) → Sto → Mu → Hp → Hp → Prop := fun kvs st μ F H => ∀ ps μ' F' H', Ext μ F H μ' F' H' → SR C.K μ' F' H' st → DqPs C.K F' ps kvs → R ps H'
theorem gP_lat {R : List (V × V) → Hp → Prop} : Lat (gP C R) := ⟨fun x h ps μ' F' H' y s d => h ps μ' F' H' (x.trans y) s d⟩
theorem pairs_ok : ∀ (prs : List (Ev × Ev)) {R : List (V × V) → Hp → Prop} {σ : St} {ρ : En} {μ : Mu} {F H : Hp} {st : Sto}, Eok C.K F μ ρ σ → SR C.K μ F H st → Post (C.at σ) (gP C R) μ F H (mPairs prs ρ st) → tPairs (trP C prs) σ H R
  | [], R, σ, ρ, μ, F, H, st, _, r, h => h [] μ F H Ext.refl r .nil
  | (mk, mv) :: rest, R, σ, ρ, μ, F, H, st, e, r, h => ⟨ρ, st, μ, F, e, r, Post.bindV gP_lat h fun x s1 v μ1 F1 H1 x1 r1 k1 h4 => ⟨ρ, s1, μ1, F1, e.ext x1, r1, Post.bindV gP_lat h4 fun y s2 u μ2 F2 H2 x2 r2 k2 h5 => by
      cases x with
      | c _ => exact False.elim h5
      | s _ => exact False.elim h5
      | o _ => exact False.elim h5
      | d a =>
        cases y with
        | c _ => exact False.elim h5
        | s _ => exact False.elim h5
        | o _ => exact False.elim h5
        | d b =>
          refine pairs_ok rest ((e.ext x1).ext x2) r2 ?_
          have h6 : Post (C.at σ) (gP C R) μ2 F2 H2 ((mPairs rest ρ s2).bind fun kvs s3 => .ok ((a, b) :: kvs) s3) := h5
          cases q : mPairs rest ρ s2 with
          | ok kvs s3 =>
            rw [q] at h6
            intro ps μ3 F3 H3 x3 r3 d3
            exact h6 _ μ3 F3 H3 x3 r3 (.cons (Dq.same (x2.same.trans x3.same) k1) (Dq.same x3.same k2) d3)
          | er e s3 => rw [q] at h6; exact h6
          | no => rw [q] at h6; exact h6⟩⟩
/-- keys: ints and texts, each once -/
def keyD : PyData → Option Key
  | .int i => some (.inl i)
  | .str x => some (.inr x)
  | _ => none
def keysD : List (PyData × PyData) → Option (List Key)
  | [] => some []
  | (k, _) :: r => match keyD k, keysD r with
    | some k, some ks => if ks.any (fun j => decide (j = k)) = true then none else some (k :: ks)
    | _, _ => none
def mDct (prs : List (Ev × Ev)) : Ev := fun ρ st => (mPairs prs ρ st).bind fun kvs s => if (keysD kvs).isSome = true ∧ kvs.length ≤ 15 then .ok (.n (.m kvs)) s else .no
theorem keyD_ok {K : Kw} {v : V} {d : PyData} {k : Key} (h : Dq K F v d) (e : keyD d = some k) : v = kV k ∧ d = kD k := by
  cases d with
  | int i => cases e; cases h; exact ⟨rfl, rfl⟩
  | str i => cases e; cases h; exact ⟨rfl, rfl⟩
  | _ => cases e
theorem keysD_ok {K : Kw} : ∀ {ps : List (V × V)} {kvs : List (PyData × PyData)} {ks : List Key}, DqPs K F ps kvs → keysD kvs = some ks → ∃ ws : List (Key × V), ps = ws.map (fun kv => (kV kv.1, kv.2)) ∧ DqKv K F ws kvs ∧ ws.map (·.1) = ks ∧ ks.Nodup
  | _, _, _, .nil, e => by cases e; exact ⟨[], rfl, .nil, rfl, List.nodup_nil⟩
  | _, (k, d) :: r, ks, .cons h1 h2 t, e => by
    unfold keysD at e
    cases q1 : keyD k with
    | none => simp only [q1] at e; cases e
    | some k' =>
      cases q2 : keysD r with
      | none => simp only [q1, q2] at e; cases e
      | some ks' =>
        simp only [q1, q2] at e
        split at e
        · cases e
        · rename_i hn
          cases e
          obtain ⟨ws, rfl, g2, g3, g4⟩ := keysD_ok t q2
          obtain ⟨rfl, rfl⟩ := keyD_ok h1 q1
          exact ⟨(k', _) :: ws, rfl, .cons h2 g2, by rw [List.map_cons, g3], List.nodup_cons.mpr ⟨fun hm => hn (List.any_eq_true.mpr ⟨_, hm, decide_eq_true rfl⟩), g4⟩⟩
theorem mergeK_nodup : ∀ (ws acc : List (Key × V)), (ws.map (·.1)).Nodup → (∀ k ∈ ws.map (·.1), k ∉ acc.map (·.1)) → mergeK acc ws = acc ++ ws
  | [], acc, _, _ => by simp [mergeK]
  | (k, v) :: ws, acc, h, hd => by
    rw [List.map_cons, List.nodup_cons] at h
    have hk : k ∉ acc.map (·.1) := hd k (by simp)
    have hp : putK acc k v = acc ++ [(k, v)] := by
      unfold putK
      rw [if_neg]
      rw [List.any_eq_true]
      rintro ⟨p, hp, e⟩
      exact hk (List.mem_map.mpr ⟨p, hp, of_decide_eq_true e⟩)
    show mergeK (putK acc k v) ws = _
    rw [hp, mergeK_nodup ws _ h.2 fun j hj => ?_]
    · simp
    · rw [List.map_append, List.mem_append, not_or]
      refine ⟨hd j (by rw [List.map_cons]; exact List.mem_cons_of_mem _ hj), fun z => ?_⟩
      rw [List.map_cons, List.map_nil, List.mem_singleton] at z
      subst z
      exact h.1 hj
theorem s_dct {prs : List (Ev × Ev)} (h : PPs X pos keys values (trP C prs)) (hall : keys.all (·.isSome) = true) (hl : keys.length = values.length) (h0 : keys ≠ []) (h15 : keys.length ≤ 15) : PE X (.Dict keys values pos) (tM C (mDct prs)) :=
  (pe_disp h hall hl h0 h15).imp fun σ H Q ⟨ρ, st, μ, F, h1, h2, h3⟩ p hp => by
    obtain ⟨s1, x1⟩ := h2.newly (o := .dK []) hp
    have dd := h2.dead hp
    refine pairs_ok prs h1 s1 ?_
    have h3 : PostE (C.at σ) Q μ F H ((mPairs prs ρ st).bind fun kvs s => if (keysD kvs).isSome = true ∧ kvs.length ≤ 15 then .ok (.n (.m kvs)) s else .no) := h3
    cases q : mPairs prs ρ st with
    | er e s => rw [q] at h3; exact Erw.later x1 h3
    | no => rw [q] at h3; exact h3
    | ok kvs s =>
      rw [q] at h3
      have h3 : PostE (C.at σ) Q μ F H (if (keysD kvs).isSome = true ∧ kvs.length ≤ 15 then .ok (.n (.m kvs)) s else .no) := h3
      intro ps μ2 F2 H2 x2 r2 d2
      by_cases hc : (keysD kvs).isSome = true ∧ kvs.length ≤ 15
      · rw [if_pos hc] at h3
        obtain ⟨ks, hk⟩ := Option.isSome_iff_exists.mp hc.1
        obtain ⟨ws, rfl, g2, g3, g4⟩ := keysD_ok d2 hk
        obtain ⟨k1, k2, k3⟩ := x2.keepOut (L := p) upd_same dd.1 dd.2
        have hlen : ws.length = kvs.length := by
          have : ∀ {ws : List (Key × V)} {kvs : List (PyData × PyData)}, DqKv C.K F2 ws kvs → ws.length = kvs.length := by
            intro ws kvs h
            induction ws generalizing kvs with
            | nil => cases h; rfl
            | cons w ws ih => cases h with | cons a b => rw [List.length_cons, List.length_cons, ih b]
          exact this g2
        refine ⟨k1, ws, rfl, by rw [hlen]; exact hc.2, ?_⟩
        rw [mergeK_nodup ws [] (by rw [g3]; exact g4) fun _ _ => by simp, List.nil_append]
        have xx := (x1.trans x2).out (L := p) (u := .dK ws) hp (.inr trivial)
        exact h3 _ μ2 F2 _ ⟨xx, r2.out k2 k3, ⟨p, _, rfl, upd_same, .inl ⟨ws, rfl, g2⟩, k2, k3⟩, fun _ _ => ⟨p, rfl, hp⟩⟩
      · rw [if_neg hc] at h3; exact False.elim h3
/-! ### reading a dict by a key -/
def keyB : PyData → PyData → Bool
  | .int i, .int j => decide (i = j)
  | .str x, .str y => decide (x = y)
  | _, _ => false
def lookK : List (PyData × PyData) → PyData → Option PyData
  | [], _ => none
  | (j, v) :: r, k => if keyB j k then some v else lookK r k
theorem keyB_kD {k j : Key} : keyB (kD j) (kD k) = decide (j = k) := by
  cases j <;> cases k <;> simp [keyB, kD]
def OptOk (K : Kw) (F : Hp) : Option V → Option PyData → Prop
  | some v, some d => Dq K F v d
  | none, none => True
  | _, _ => False
theorem lookK_ok {K : Kw} {k : Key} : ∀ {ws : List (Key × V)} {kvs : List (PyData × PyData)}, DqKv K F ws kvs → OptOk K F (valV ws k) (lookK kvs (kD k))
  | _, _, .nil => trivial
  | (j, v) :: ws, _, .cons (d := d) h t => by
    unfold lookK valV
    rw [List.find?_cons, keyB_kD]
    cases q : decide (j = k) with
    | true => exact h
    | false => exact lookK_ok t
def vRv : Vl → Rv
  | .d x => .d x
  | .c i => .c i
  | .s ns => .s ns
  | .o x => .o x
theorem vRv_ok {K : Kw} {H : Hp} {x : Vl} {v : V} (h : Vok K F μ x v) : Rok K F μ H (vRv x) v := by cases x <;> exact h
theorem dic_of {K : Kw} {v : V} {kvs : List (PyData × PyData)} (h : Vw K F H v (.dict kvs)) (f : flK kvs = true) : ∃ a ws, v = .ref a ∧ H a = some (.dK ws) ∧ DqKv K F ws kvs := h.flat_dict f
/-- d.get(k, x) -/
def mDGet2 (md mk mx : Ev) : Ev := fun ρ st => (mV md ρ st).bind fun x s1 => match view s1 x with
  | some (.dict kvs0) => if flK kvs0 = true then (mV mk ρ s1).bind fun y s2 => (mV mx ρ s2).bind fun z s3 => match view s3 x, y with
    | some (.dict kvs), .d y => if flK kvs = true then (if (keyD y).isSome then (match lookK kvs y with
      | some v => .ok (.d v) s3
      | none => .ok (vRv z) s3) else .no) else .no
    | _, _ => .no else .no
  | _ => .no
variable {a b c : Expr} {ma mb mc : Ev} {apos : Pos}
theorem y_dget2 (hu : X.A.units + 64 < cLine) (ha : PE X a (tM C ma)) (hb : PE X b (tM C mb)) (hc : PE X c (tM C mc)) (m : M2 X a "get" apos b c pos) : PE X (.Call (.Attribute a "get" apos) [b, c] [] pos) (tM C (mDGet2 ma mb mc)) :=
  (pe_dget2 (Nat.lt_of_le_of_lt (Nat.add_le_add_left (by decide) _) hu) (pv_frz ha) (pv_frz hb) (pv_frz hc) m).imp fun σ H Q ⟨ρ, st, μ, F, h1, h2, h3⟩ => ⟨ρ, st, μ, F, h1, h2, Post.bindV gE_lat h3 fun x s v μ1 F1 H1 x1 r1 k1 h4 => by
    cases q1 : view s x with
    | none => simp only [q1] at h4; exact False.elim h4
    | some dx =>
      cases dx with
      | dict kvs0 =>
        simp only [q1] at h4
        by_cases hf0 : flK kvs0 = true
        case neg => rw [if_neg hf0] at h4; exact False.elim h4
        rw [if_pos hf0] at h4
        obtain ⟨p, ws0, rfl, g1, _⟩ := dic_of (view_ok r1 k1 q1) hf0
        refine ⟨p, rfl, .inl ⟨ws0, .inl g1⟩, ρ, s, μ1, F1, h1.ext x1, r1, Post.bindV gE_lat h4 fun y s2 u μ2 F2 H2 x2 r2 k2 h5 => ⟨ρ, s2, μ2, F2, (h1.ext x1).ext x2, r2, Post.bindV gE_lat h5 fun z s3 w μ3 F3 H3 x3 r3 k3 h6 => ?_⟩⟩
        cases q2 : view s3 x with
        | none => simp only [q2] at h6; exact False.elim h6
        | some dx =>
          cases dx with
          | dict kvs =>
            by_cases hf : flK kvs = true
            case neg =>
              cases y with
              | d y => simp only [q2] at h6; rw [if_neg hf] at h6; exact False.elim h6
              | c _ => simp only [q2] at h6; exact False.elim h6
              | s _ => simp only [q2] at h6; exact False.elim h6
              | o _ => simp only [q2] at h6; exact False.elim h6
            obtain ⟨p', ws, e', g2, g3⟩ := dic_of (view_ok r3 ((k1.ext x2).ext x3) q2) hf
            cases e'
            cases y with
            | c _ => simp only [q2] at h6; exact False.elim h6
            | s _ => simp only [q2] at h6; exact False.elim h6
            | o _ => simp only [q2] at h6; exact False.elim h6
            | d y =>
              simp only [q2] at h6
              rw [if_pos hf] at h6
              cases q3 : keyD y with
              | none => simp only [q3] at h6; exact False.elim h6
              | some k =>
                obtain ⟨e4, e5⟩ := keyD_ok k2 q3
                subst e4 e5
                simp only [q3, Option.isSome_some, if_true] at h6
                refine ⟨_, .k g2, ?_⟩
                have hk := lookK_ok (k := k) g3
                cases q4 : lookK kvs (kD k) with
                | some d =>
                  rw [q4] at hk h6
                  cases q5 : valV ws k with
                  | none => rw [q5] at hk; exact False.elim hk
                  | some v => rw [q5] at hk; exact h6 _ _ _ _ ⟨Ext.refl, r3, hk, fun c z => by cases z⟩
                | none =>
                  rw [q4] at hk h6
                  cases q5 : valV ws k with
                  | some _ => rw [q5] at hk; exact False.elim hk
                  | none => exact h6 _ _ _ _ ⟨Ext.refl, r3, vRv_ok k3, fun c e => by cases z <;> cases e⟩
          | _ => simp only [q2] at h6; exact False.elim h6
      | _ => simp only [q1] at h4; exact False.elim h4⟩
/-- {} -/
def mD0 : Ev := fun _ st => .ok (.n (.m [])) st
theorem s_d0 : PE X (.Dict [] [] pos) (tM C mD0) := pe_dnewK.imp fun σ H Q ⟨ρ, st, μ, F, h1, h2, h3⟩ p hp => by
  obtain ⟨s1, x1⟩ := h2.newly (o := .dK []) hp
  have dd := h2.dead hp
  exact h3 _ μ F _ ⟨x1, s1, ⟨p, _, rfl, upd_same, .inl ⟨[], rfl, .nil⟩, dd.1, dd.2⟩, fun _ _ => ⟨p, rfl, hp⟩⟩
end
end Cp
/-! Ch: the head's facts as Bool functions of the written part; facts of own error classes. -/
namespace Cp
open PySem PySem.Spec PyProof.Rows L2
abbrev Fb : Type := PySem.W.Frag → Bool
def obsX (fb : List Fb) (fn : List He.DefD) (K : PySem.W.Frag) : He.AlD := ((fb.all fun f => f K) && fn.all fun d => d.ok K, fn.map fun d => He.fnW K d.at_)
def SaysX (fb : List Fb) (fn : List He.DefD) (K : PySem.W.Frag) : Prop := obsX fb fn K = He.valD fn
section
variable {fb : List Fb} {fn : List He.DefD} {K : PySem.W.Frag}
theorem SaysX.fact (c : SaysX fb fn K) (i : Nat) {f : Fb} (h : fb[i]? = some f := by rfl) : f K = true := by
  have c1 := (He.ba (show ((fb.all fun f => f K) && fn.all fun d => d.ok K) = true from congrArg (fun z : He.AlD => z.1) c)).1
  exact List.all_eq_true.mp c1 f (List.mem_of_getElem? h)
theorem SaysX.def_ (c : SaysX fb fn K) (i : Nat) {d : He.DefD} (h : fn[i]? = some d := by rfl) : ∃ fd, FunD K d.name d.qual d.params d.body d.scope (d.dvs K) (d.kws K) (He.fAd K d.at_) fd := by
  have c2 := (He.ba (show ((fb.all fun f => f K) && fn.all fun d => d.ok K) = true from congrArg (fun z : He.AlD => z.1) c)).2
  have e : fn.map (fun d => He.fnW K d.at_) = fn.map He.DefD.val := congrArg (fun z : He.AlD => z.2) c
  have e2 : (fn.map fun d => He.fnW K d.at_)[i]? = (fn.map He.DefD.val)[i]? := by rw [e]
  rw [List.getElem?_map, List.getElem?_map, h] at e2
  exact He.DefD.funD (Option.some.inj e2) (List.all_eq_true.mp c2 d (List.mem_of_getElem? h))
end
/-! ### own error classes -/
/-- what isinstance asks of an error's class -/
structure ErrC (K : PySem.W.Frag) (C : Addr) : Prop where
  cl : (PySem.W.clsIn K C).isSome = true
  ga : PySem.W.findIn K (.ref C) "__getattribute__" = some (some (.builtin "BaseException.__getattribute__"))
  gt : PySem.W.findIn K (.ref C) "__getattr__" = some none
  su : PySem.W.subIn K (.ref C) (.type "BaseException") = some true
  kc : PySem.W.findIn K (.ref C) "__class__" = some (some (.builtin "object.__class__"))
  sp : PySem.W.specialIn K (.builtin "object.__class__") "__get__" = some (some (.builtin "getset_descriptor.__get__"))
  tk : PySem.W.takesIn K (.builtin "object.__class__") = some true
  mr : PySem.W.mroIn K C (.type "object") = some true
  hd : PySem.W.hasDictIn K C = true
def errB (x : Str) : Fb := fun K => (PySem.W.clsIn K (He.ga K x)).isSome && (He.eqO (PySem.W.findIn K (.ref (He.ga K x)) "__getattribute__") (some (some (.builtin "BaseException.__getattribute__"))) && (He.eqO (PySem.W.findIn K (.ref (He.ga K x)) "__getattr__") (some none) &&
  (decide (PySem.W.subIn K (.ref (He.ga K x)) (.type "BaseException") = some true) && (He.eqO (PySem.W.findIn K (.ref (He.ga K x)) "__class__") (some (some (.builtin "object.__class__"))) && (He.eqO (PySem.W.specialIn K (.builtin "object.__class__") "__get__") (some (some (.builtin "getset_descriptor.__get__"))) &&
  (decide (PySem.W.takesIn K (.builtin "object.__class__") = some true) && (decide (PySem.W.mroIn K (He.ga K x) (.type "object") = some true) && PySem.W.hasDictIn K (He.ga K x))))))))
theorem errB_ok {x : Str} {K : PySem.W.Frag} (h : errB x K = true) : ErrC K (He.ga K x) := by
  obtain ⟨h1, h⟩ := He.ba h
  obtain ⟨h2, h⟩ := He.ba h
  obtain ⟨h3, h⟩ := He.ba h
  obtain ⟨h4, h⟩ := He.ba h
  obtain ⟨h5, h⟩ := He.ba h
  obtain ⟨h6, h⟩ := He.ba h
  obtain ⟨h7, h⟩ := He.ba h
  obtain ⟨h8, h9⟩ := He.ba h
  exact ⟨h1, He.eqO_ok h2, He.eqO_ok h3, of_decide_eq_true h4, He.eqO_ok h5, He.eqO_ok h6, of_decide_eq_true h7, of_decide_eq_true h8, h9⟩
/-- whether the classes named are asked rightly -/
def isB (x : Str) (ys : List Str) (b : Bool) : Fb := fun K => decide (PySem.W.kitAny K (.ref (He.ga K x)) (ys.map fun y => .ref (He.ga K y)) = some b)
def isNB (ys : List Str) : Fb := fun K => decide (PySem.W.kitAny K (.type "NoneType") (ys.map fun y => .ref (He.ga K y)) = some false)
def exmB (x y : Str) (b : Bool) : Fb := fun K => decide (PySem.W.exmOne K (.ref (He.ga K x)) (.ref (He.ga K y)) = some b)
theorem kit1 {K : PySem.W.Frag} {t c : Value} {b : Bool} (h : PySem.W.kitAny K t [c] = some b) : PySem.W.kitOne K t c = some b := by
  unfold PySem.W.kitAny at h
  cases q : PySem.W.kitOne K t c with
  | none => rw [q] at h; cases h
  | some v =>
    rw [q] at h
    cases v with
    | true => exact h
    | false => exact h
/-! ### a class whose __init__ keeps one field -/
def exObjB (x : Str) : Fb := fun K => match K.lookup (He.ga K x) with
  | some ⟨.type "type", _, .cls cd, sl⟩ => (match cd.mro, sl.toList with
    | .ref C' :: bm, [_, _, _, _, some (.builtin n), _] => C' == He.ga K x && n == "ValueError.__new__" && !cd.hasDel && PySem.HandSPX.refsVE bm && cd.hasDict
    | _, _ => false)
  | _ => false
theorem exObjB_ok {x : Str} {K : PySem.W.Frag} (q : exObjB x K = true) : ∃ nm qn N bs bm sn sub ab col dd k0 k1 k2 k3 k5, K.lookup (He.ga K x) = some (excClassObj nm qn (He.ga K x) N bs bm true sn sub ab col dd k0 k1 k2 k3 k5 "ValueError.__new__") ∧ PySem.HandSPX.refsVE bm = true := by
  unfold exObjB at q
  split at q
  · rename_i dd cd sl ho
    split at q
    · rename_i C' bm k0 k1 k2 k3 n k5 hm hs
      simp only [Bool.and_eq_true, beq_iff_eq, Bool.not_eq_true'] at q
      obtain ⟨⟨⟨⟨e1, rfl⟩, hdel⟩, ht⟩, hh⟩ := q
      subst e1
      obtain ⟨nm, bs, mro, ns, qn, hd, sn, sub, ab, col, del⟩ := cd
      dsimp only at hm hdel hh
      subst hm hdel hh
      have hsl : sl = #[k0, k1, k2, k3, some (.builtin "ValueError.__new__"), k5] := by
        obtain ⟨l⟩ := sl
        simp only at hs
        rw [hs]
      subst hsl
      exact ⟨_, _, _, _, _, _, _, _, _, _, _, _, _, _, _, ho, ht⟩
    · cases q
  · cases q
end Cp
/-! Ce: errors of the program's own: raised, caught, kept in a name, asked. -/
namespace Cp
open PySem PySem.Spec PyProof.Rows L2
section
variable {X : Cx} {C : Addr} {bmB : List Value} {B newId initId : String}
/-- raise X() -/
def sRaise (x : Str) : Sv := fun _ st => .er ⟨x, none⟩ st
end
/-- raise X(e): the value is data -/
def sRaise1 (x f : Str) (ma : En → Sto → Res (List Vl)) : Sv := fun ρ st => (ma ρ st).toS fun xs s => match xs with
  | [.d y] => .er ⟨x, some (f, y)⟩ s
  | _ => .no
/-! ### try: body, except x as n: suite, the error kept -/
theorem erO_ok {P : Program} {w : World} {H : Hp} {h : Heap} {a : Addr} {cls : Value} {d : Option Addr} {oe : Obj} {vs : Array Value} (he : h.get? a = some oe) (hz : Zc cls d oe) (hd : oe.data = .fields vs) : ObjOk P w H h a (erO a cls d) :=
  ⟨⟨oe, vs, he, hz, hd⟩, ⟨oe, he⟩, fun h1 h2 ⟨o, v, e1, e2, e3⟩ k => ⟨o, v, k _ e1, e2, e3⟩⟩
section
variable {X : Cx} {pins : List (Addr × Obj)} {σ : L2.St} {H : Hp} {sI s s' : Shared} {B : Heap}
/-- back on the ground, the error tracked -/
theorem landedT {a : Addr} {o : HO} (I : Inv X pins σ H sI) (nb : ∀ b o, sI.heap.get? b = some o → b ∉ frs X.stack → B.get? b = some o) (st : B.StaysIn s'.heap) (up : sI.heap.UpToSlots s'.heap) (os : s'.os = sI.os) (ag : AllBare s'.gens)
    (ha : sI.heap.get? a = none) (hn : H a = none) (new : ObjOk X.prog X.w (upd H a o) s'.heap a o) : Inv X pins σ (upd H a o) s' := by
  have nf : ∀ b ∈ frs X.stack, ∀ o, sI.heap.get? b = some o → ∃ sl, s'.heap.get? b = some { o with slots := sl } := fun b hb o e => by
    obtain ⟨_, o', e', hd⟩ := I.stack.mem hb
    rw [e] at e'; cases e'
    exact up b o e hd
  have na : ∀ {b o}, sI.heap.get? b = some o → b ≠ a := fun {b o} e z => by rw [z, ha] at e; cases e
  have J := I.call (ch := []) (h' := s'.heap) (g' := s'.gens) (t' := s'.toks) (d' := s'.drawn) (H' := upd H a o)
    ⟨fun b o e _ hb _ => st b o (nb b o e hb), fun b o e _ hb _ => nf b hb o e, fun b o e n _ => by rw [upd_ne (na e)]; exact n, fun b o e _ => by
      by_cases hb : b ∈ frs X.stack
      · obtain ⟨sl, q⟩ := nf b hb o e
        exact ⟨_, q⟩
      · exact ⟨o, st b o (nb b o e hb)⟩, fun _ _ e => by rw [upd_ne (ne_of_none e hn)]; exact e, fun _ _ _ e => by rw [upd_ne (ne_of_none e hn)]; exact e, fun b ps e => ⟨#[], by rw [upd_ne (ne_of_none e hn), e]; simp⟩⟩
    ((I.inGround nb).laidN st hn new) ag (fun _ z => nomatch z)
  obtain ⟨a1, a2, a3, a4, a5⟩ := s'
  have e5 : a5 = sI.os := os
  subst e5
  exact J
theorem suiteT (I : Inv X pins σ H s) (a : Addr) : Inv (X.suite a (X.pn ++ pins)) [] σ H s :=
  ⟨I.ok.suite _ _, I.os, I.bare, I.base, I.loc, I.cell, I.free, I.freeC, fun p hp => I.pin p (by rw [List.append_nil] at hp; exact hp), I.hok, I.len⟩
theorem unsuiteT {a : Addr} {pn' : List (Addr × Obj)} (I : Inv (X.suite a (X.pn ++ pins)) pn' σ H s) (ok : X.Ok) : Inv X pins σ H s :=
  ⟨ok, I.os, I.bare, I.base, I.loc, I.cell, I.free, I.freeC, fun p hp => I.pin p (List.mem_append_left _ hp), I.hok, I.len⟩
end
def wTry (K : PySem.W.Frag) (c : Value) (i : Nat) (ts : TS) (Wout : WX) (D : Ends) : WX := fun cls d σ H =>
  ∃ b, PySem.W.exmOne K cls c = some b ∧ (b = true → ∀ a, H a = none → ts { nx := fun σ' H' => D.nx (σ'.set i none) H', rt := D.rt, bk := fun σ' H' => D.bk (σ'.set i none) H', ct := fun σ' H' => D.ct (σ'.set i none) H' } (σ.set i (some (.ref a))) (upd H a (erO a cls d))) ∧
    (b = false → Wout cls d σ H)
section
variable {X : Cx} {x n : Str} {c : Value} {i : Nat} {body suite : List Stmt} {b₀ : Stmt} {np pos pos' : Pos} {tb : WX → TS} {ts : TS} {Wout : WX}
theorem ps_try_keep (hs : X.stack = X.env :: X.outer) (hf : X.env.frame = some X.env.locals) (hN : X.N.Nodup) (hi : X.N[i]? = some n) (hln : X.env.kindOf n = some .local) (hc : Names X x c) (tk : Takes X Wout)
    (hb : ∀ (W : WX) (pn : List (Addr × Obj)) (xe : Value → Shared → Prop), Takes (X.tr pn xe) W → PassesOwn (model X.prog X.w) X.A X.env xe → PSs (X.tr pn xe) body (tb W))
    (hsu : ∀ (a : Addr) (pn : List (Addr × Obj)), PSs (X.suite a pn) (b₀ :: suite) ts) :
    PS X (.Try body [.ExceptHandler (some (.Name x np)) (some n) (b₀ :: suite) pos'] [] [] pos) (fun D σ H => tb (wTry X.K c i ts Wout D) D σ H) := by
  refine ⟨fun pins s σ H D I h => ?_⟩
  have ok := I.ok
  have hfr : X.A.frames = some (X.env :: X.outer) := by rw [ok.frames, hs]
  have hloc : Loc X.env.scope n := .inl hln
  refine wpAny_Try_except ?_
  refine wpAny_mono ((hb (wTry X.K c i ts Wout D) (X.pn ++ pins) (fun e s₁ => wpAny (model X.prog X.w) X.A (noteFrame e X.env) (fun _ s₂ => wpAny (model X.prog X.w) X.A (setFlight e none) (fun _ s₃ =>
    wpAny (model X.prog X.w) X.A (handleBy e X.env [.ExceptHandler (some (.Name x np)) (some n) (b₀ :: suite) pos']) (SP X pins D) X.xe s₃) X.xe s₂) X.xe s₁) (fun u s' xx => ?_) PassesOwn.looking).run [] s σ H D (I.toTry _) h) (fun f s1 hsp => ?_) (fun e s1 he => he)
  · obtain ⟨a, B, sI, pins', σ', H', cls, d, rfl, J', nb, up, sky, na, os, ag, b, hb1, hyes, hno⟩ := xx
    have J : Inv X pins σ' H' sI := J'.ofTry ok
    have sky' : Sky B (X.env :: X.outer) a (Zc cls d) X.env.locals s'.heap := by rw [← hs]; exact sky
    show wpAny (model X.prog X.w) X.A (noteFrame (.ref a) X.env) _ _ _
    refine Sky.land Zc.steady hfr hf sky' fun h3 fl3 up3 => ?_
    have J3 : Inv X pins σ' H' { s' with heap := h3 } := J.landed nb fl3.1 (up.trans up3) os ag
    obtain ⟨oe3, vs3, he3, hz3, hd3⟩ := fl3.there
    have notFr : ∀ {h : Heap} {o : Obj} {vs : Array Value}, h.FunFrames B (X.env :: X.outer) → h.get? a = some o → o.data = .fields vs → a ∉ frs (X.env :: X.outer) := fun {h o vs} ff e dd hm => by
      obtain ⟨_, o', e', hnf⟩ := ff.mem hm
      rw [e] at e'; cases e'
      exact hnf _ dd
    have nfr := notFr fl3.2.2.1 he3 hd3
    have nL : a ≠ X.env.locals := fun z => nfr (List.mem_filterMap.mpr ⟨X.env, List.mem_cons_self, by rw [hf, z]⟩)
    have nF : a ∉ X.fs := fun hm => by
      obtain ⟨e, he, q⟩ := List.mem_filterMap.mp hm
      exact nfr (List.mem_filterMap.mpr ⟨e, List.mem_cons_of_mem _ he, q⟩)
    have nI : sI.heap.get? a = none := by
      cases q : sI.heap.get? a with
      | none => rfl
      | some o =>
        have z := nb a o q (by rw [hs]; exact nfr)
        rw [fl3.2.1] at z; cases z
    have S3 := J3.suite he3 hd3 na nL nF
    refine wpAny_handleBy_cons (codeAny_handlers_test ?_) (by intro q; cases q)
    have LT : PySem.W.Looks (model X.prog X.w) h3 (typeOf (.ref a)) cls := fun A Q E s k q => wpAny_typeOf_ref (k _ _ he3) (by rw [hz3.1]; exact q)
    have LM := PySem.W.exm_one (M := model X.prog X.w) (J3.kIn) LT hb1
    have test : ∀ {Q : Value → Shared → Prop} {E : Value → Shared → Prop}, Q c { s' with heap := h3 } → wpAny (model X.prog X.w) (X.A.mark (some (.ref a))) (eval (.Name x np) X.env) Q E { s' with heap := h3 } := fun {Q E} q => by
      obtain ⟨hg, hdbg, hm | ⟨hm, hv, hnn⟩⟩ := hc
      · exact ld_glob (X := X.suite a ((a, oe3) :: (X.pn ++ pins))) S3 hg hm q hdbg
      · exact ld_blt (X := X.suite a ((a, oe3) :: (X.pn ++ pins))) S3 hg hm hv q hnn hdbg
    refine test (LM.here ?_)
    cases b with
    | true =>
      refine codeAny_handlers_suite_as ?_
      refine HandSPX.lands_againZ fl3 fun h4 fl4 up4 => ?_
      obtain ⟨oe4, vs4, he4, hz4, hd4⟩ := fl4.there
      have J4 : Inv X pins σ' (upd H' a (erO a cls d)) { s' with heap := h4 } := landedT J nb fl4.1 ((up.trans up3).trans up4) os ag nI na (erO_ok he4 hz4 hd4)
      have S4 := suiteT J4 a
      refine store_ok (X := X.suite a (X.pn ++ pins)) (v := .ref a) S4 hN hi hloc rfl (fun s5 S5 => ?_) (.inr hln)
      refine wpAny_mono ((hsu a (X.pn ++ pins)).run [] s5 _ _ _ S5 (hyes rfl a na)) (fun f s6 hsp => ?_) (fun _ _ z => False.elim z)
      have end_ : ∀ {σ6 : L2.St} {H6 : Hp} {Q : Shared → Prop}, Inv (X.suite a (X.pn ++ pins)) [] σ6 H6 s6 → (∀ s7, Inv X pins (σ6.set i none) H6 s7 → Q s7) →
          wpAny (model X.prog X.w) X.A (do bindName X.env n .none; unbindBehindTheSuite X.env n pos') (fun _ s7 => Q s7) X.xe s6 := fun {σ6 H6 Q} S6 hq => gone_ok (unsuiteT S6 ok) hN hi hln hq
      cases f with
      | next =>
        obtain ⟨σ6, H6, S6, q6⟩ := hsp
        exact end_ S6 fun s7 J7 => ⟨_, _, J7, q6⟩
      | brk =>
        obtain ⟨σ6, H6, S6, q6⟩ := hsp
        exact end_ S6 fun s7 J7 => ⟨_, _, J7, q6⟩
      | cont =>
        obtain ⟨σ6, H6, S6, q6⟩ := hsp
        exact end_ S6 fun s7 J7 => ⟨_, _, J7, q6⟩
      | ret u =>
        obtain ⟨v6, σ6, H6, S6, r6, q6⟩ := hsp
        exact end_ S6 fun s7 J7 => ⟨_, _, _, J7, r6, q6⟩
    | false =>
      show wpAny _ X.A (handleBy (.ref a) X.env []) _ _ _
      refine wpAny_handleBy_nil ?_
      obtain ⟨k1, k2, k3, oe, vs, T, oT, ts', he, hz, hd, h1, hr⟩ := id fl3
      unfold PySem.passOn
      refine wpAny_bind (wpAny_field he hd h1 ?_)
      rw [if_neg (show ¬ ((Value.ref T == Value.none) = true) from by simp)]
      have fin : wpAny (model X.prog X.w) X.A (setFlight (.ref a) X.env.frame) (fun _ s4 => wpAny (model X.prog X.w) X.A (throw (.ref a) : Sem Flow) (SP X pins D) X.xe s4) X.xe { s' with heap := h3 } := by
        rw [hf]
        refine HandSPX.setFlight_upZ fl3 fun h4 hh4 up4 => wpAny_throw (tk _ _ ?_)
        exact ⟨a, B, sI, pins, σ', H', cls, d, rfl, J, nb, (up.trans up3).trans up4, .inr (.inr (by rw [hs]; exact hh4)), na, os, ag, hno rfl⟩
      first
        | exact wpAny_bind (wpAny_pure (wpAny_bind fin))
        | exact wpAny_bind fin
  · cases f with
    | next =>
      obtain ⟨σ', H', J', q⟩ := hsp
      exact wpAny_execs_nil ⟨σ', H', J'.ofTry ok, q⟩
    | brk =>
      obtain ⟨σ', H', J', q⟩ := hsp
      exact ⟨σ', H', J'.ofTry ok, q⟩
    | cont =>
      obtain ⟨σ', H', J', q⟩ := hsp
      exact ⟨σ', H', J'.ofTry ok, q⟩
    | ret u =>
      obtain ⟨v, σ', H', J', r, q⟩ := hsp
      exact ⟨v, σ', H', J'.ofTry ok, r, q⟩
end
/-- which of the named classes an except clause takes -/
abbrev Cat := List (Str × Bool)
/-- try: .. except .. as n (slot i): suite -/
def sTry (i : Nat) (cat : Cat) (sb ss : Sv) : Sv := fun ρ st => match sb ρ st with
  | .er e s => match cat.lookup e.cls with
    | some true => match ss (ρ.set i (some (.o (.er e)))) s with
      | .nx ρ' s' => .nx (ρ'.set i none) s'
      | .bk ρ' s' => .bk (ρ'.set i none) s'
      | .ct ρ' s' => .ct (ρ'.set i none) s'
      | .rt r s' => .rt r s'
      | .er _ _ => .no
      | .no => .no
    | some false => .er e s
    | none => .no
  | r => r
theorem eok_unset {K : Kw} {F : Hp} {μ : Mu} {ρ : En} {σ : L2.St} {i : Nat} (h : Eok K F μ ρ σ) : Eok K F μ (ρ.set i none) (σ.set i none) := by
  refine ⟨by simp [h.1], fun j y e => ?_⟩
  by_cases hj : i = j
  · subst hj
    by_cases hi : i < ρ.length
    · rw [List.getElem?_set_self hi] at e; cases e
    · rw [List.getElem?_eq_none (by simpa using hi)] at e; cases e
  · rw [List.getElem?_set_ne hj] at e
    obtain ⟨w, h1, h2⟩ := h.2 j y e
    exact ⟨w, by rw [List.getElem?_set_ne hj]; exact h1, h2⟩
section
variable {X : Cx} {C : Cn} {k : Nat} {x n : Str} {i : Nat} {b : Stmt} {suite : List Stmt} {b₀ : Stmt} {np pos pos' : Pos} {sb ss : Sv} {cat : Cat}
/-- the context of a try's body: what is wished hangs on the slots -/
abbrev Cn.try_ (C : Cn) (W : WX) : Cn := ⟨C.K, C.mg, W, []⟩
theorem Bd.tr (B : Bd k X C) {W : WX} {pn : List (Addr × Obj)} {xe : Value → Shared → Prop} (tk : Takes (X.tr pn xe) W) (hp : PassesOwn (model X.prog X.w) X.A X.env xe) : Bd k (X.tr pn xe) (C.try_ W) :=
  ⟨B.cm, B.nd, hp, fun σ => passAt tk σ, B.hK, B.hw, B.hm, B.rm, tk⟩
theorem x_tryAs (B : Bd k X C) (hs : X.stack = X.env :: X.outer) (hf : X.env.frame = some X.env.locals) (hi : X.N[i]? = some n) (hln : X.env.kindOf n = some .local) (gx : Gl X x) (hdb : (x == ("__debug__" : Str)) = false) (mx : X.mg x = some (.ref (He.ga X.K x)))
    (hcat : ∀ y v, cat.lookup y = some v → PySem.W.exmOne X.K (.ref (He.ga X.K y)) (.ref (He.ga X.K x)) = some v)
    (hb : ∀ (W : WX) (pn : List (Addr × Obj)) (xe : Value → Shared → Prop), Bd k (X.tr pn xe) (C.try_ W) → PSs (X.tr pn xe) [b] (tS (C.try_ W) sb))
    (hsu : ∀ (a : Addr) (pn : List (Addr × Obj)), PSs (X.suite a pn) (b₀ :: suite) (tS C.quiet ss)) :
    PS X (.Try [b] [.ExceptHandler (some (.Name x np)) (some n) (b₀ :: suite) pos'] [] [] pos) (tS C (sTry i cat sb ss)) :=
  (ps_try_keep (i := i) (c := .ref (He.ga X.K x)) hs hf B.nd hi hln ⟨gx, hdb, .inl mx⟩ B.tk (fun W pn xe tk hp => hb W pn xe (B.tr tk hp)) hsu).imp fun D σ H ⟨ρ, st, μ, F, h1, h2, h3⟩ => ⟨ρ, st, μ, F, h1, h2, by
    show PostS ((C.try_ _).at σ) D μ F H (sb ρ st)
    unfold sTry at h3
    cases q : sb ρ st with
    | nx ρ' s => simp only [q] at h3; exact h3
    | bk ρ' s => simp only [q] at h3; exact h3
    | ct ρ' s => simp only [q] at h3; exact h3
    | rt r s => simp only [q] at h3; exact h3
    | no => simp only [q] at h3; exact h3
    | er e s =>
      simp only [q] at h3
      intro cls dd μ' F' H' x1 r1 ⟨k1, k2⟩
      show wTry X.K _ i _ _ D cls dd σ H'
      have hK : C.K.K = X.K := B.hK
      cases qc : cat.lookup e.cls with
      | none => simp only [qc] at h3; exact False.elim h3
      | some v =>
        simp only [qc] at h3
        refine ⟨v, by rw [k1]; show PySem.W.exmOne X.K (.ref (He.ga C.K e.cls)) _ = _; rw [hK]; exact hcat _ _ qc, fun ev a ha => ?_, fun ev => ?_⟩
        · subst ev
          simp only at h3
          obtain ⟨r2, x2⟩ := r1.newly (o := erO a cls dd) ha
          have dd0 := r1.dead ha
          obtain ⟨r3, x3, sm⟩ := r2.freeze x2 r1.sub ha upd_same dd0.1 dd0.2
          have xx := x1.trans x3
          refine ⟨ρ.set i (some (.o (.er e))), s, μ', _, eok_set (h1.ext xx) ?_, r3, ?_⟩
          · show ObOk C.K _ μ'.η (.er e) (.ref a)
            exact ⟨a, dd, rfl, by rw [upd_same, k1], k2.same sm⟩
          · show PostS (C.quiet.at _) _ μ' _ _ (ss _ s)
            cases q2 : ss (ρ.set i (some (.o (.er e)))) s with
            | nx ρ2 s2 => simp only [q2] at h3; exact fun σ' μ4 F4 H4 x4 r4 k4 => h3 _ μ4 F4 H4 (xx.trans x4) r4 (eok_unset k4)
            | bk ρ2 s2 => simp only [q2] at h3; exact fun σ' μ4 F4 H4 x4 r4 k4 => h3 _ μ4 F4 H4 (xx.trans x4) r4 (eok_unset k4)
            | ct ρ2 s2 => simp only [q2] at h3; exact fun σ' μ4 F4 H4 x4 r4 k4 => h3 _ μ4 F4 H4 (xx.trans x4) r4 (eok_unset k4)
            | rt r s2 => simp only [q2] at h3; exact gE_lat.it xx h3
            | er _ _ => simp only [q2] at h3; exact False.elim h3
            | no => simp only [q2] at h3; exact False.elim h3
        · subst ev
          simp only at h3
          exact h3 cls dd μ' F' H' x1 r1 ⟨k1, k2⟩⟩
/-- try: .. except ..: suite -/
def sTryN (cat : Cat) (sb ss : Sv) : Sv := fun ρ st => match sb ρ st with
  | .er e s => match cat.lookup e.cls with
    | some true => match ss ρ s with
      | .er _ _ => .no
      | r => r
    | some false => .er e s
    | none => .no
  | r => r
end
end Cp
/-! Ci: what is asked of a caught error that a name holds: isinstance, its field, is None. -/
namespace Cp
open PySem PySem.Spec PyProof.Rows L2
section
variable {X : Cx} {C : Cn} {a b : Expr} {ma mb : Ev} {p p2 pos : Pos} {x y f : Str}
/-- the error at a, in the heap -/
theorem er_inst {pins : List (Addr × Obj)} {σ : L2.St} {H : Hp} {s : Shared} {a D : Addr} {e : Option (Str × PyData)} {F : Hp} {dd : Option Addr} {K : Kw} (I : Inv X pins σ H s) (ha : H a = some (erO a (.ref D) dd)) (sub : Same F H) (hd : ErD K F e dd) :
    ∃ ox od, PySem.W.InstAt s.heap a ox D od := by
  have ok : ObjOk X.prog X.w H s.heap a (.ext fun h => ∃ oe vs, h.get? a = some oe ∧ Zc (.ref D) dd oe ∧ oe.data = .fields vs) := I.hok a _ ha
  obtain ⟨⟨oe, vs, h1, h2, h3⟩, _⟩ := ok
  have nc : PySem.W.notCls oe = true := by unfold PySem.W.notCls; rw [h3] <;> rfl
  cases e with
  | none =>
    have hd : dd = none := hd
    subst hd
    exact ⟨oe, none, h1, h2.1, nc, by rw [h2.2]; trivial⟩
  | some fx =>
    obtain ⟨f, y⟩ := fx
    obtain ⟨d, v, rfl, e2, e3⟩ := hd
    have hx : ObjOk X.prog X.w H s.heap d (.xd [(f, v)]) := I.hok d _ (sub _ _ e2)
    obtain ⟨mA, hns, hr⟩ := hx
    obtain ⟨od, ho, hl⟩ := lookIn_ns hns
    exact ⟨oe, some od, h1, h2.1, nc, by rw [h2.2]; exact ho⟩
/-- isinstance(v, c): v an error of ours -/
def rIsO (K : PySem.W.Frag) : List V → Hp → VK → Prop := fun xs H Q => ∃ (KK : Kw) (a D cc : Addr) (dd : Option Addr) (e : Option (Str × PyData)) (F : Hp) (b : Bool), xs = [.ref a, .ref cc] ∧ H a = some (erO a (.ref D) dd) ∧ Same F H ∧ ErD KK F e dd ∧ ErrC K D ∧ PySem.W.kitOne K (.ref D) (.ref cc) = some b ∧ Q (.bl b) H
theorem kitx_er {K : PySem.W.Frag} {a D : Addr} {ox : Obj} {od : Option Obj} (T : ErrC K D) : PySem.W.KitX K (.ref a) (.ref D) (fun h => PySem.W.InstAt h a ox D od) :=
  PySem.W.kitx_exc T.cl T.ga T.gt T.su T.kc T.sp T.tk T.mr
theorem call_isO : CallR X (.builtin "isinstance") (rIsO X.K) := by
  intro pins s σ H xs us Q I r h
  obtain ⟨KK, a, D, cc, dd, e, F, b, rfl, ha, sub, hd, T, hk, q⟩ := h
  obtain ⟨u1, u2, rfl, r1, r2⟩ := vals2 r
  cases (show u1 = Value.ref a from r1)
  cases (show u2 = Value.ref cc from r2)
  obtain ⟨ox, od, J⟩ := er_inst I ha sub hd
  exact PySem.W.kia_one (kitx_er T) I.kIn J hk (fun z => nomatch z) fun tk => ⟨.bl b, H, I.tok tk, rfl, q⟩
theorem CallR_or {c : Value} {r r' : List V → Hp → VK → Prop} (h : CallR X c r) (h' : CallR X c r') : CallR X c (fun xs H Q => r xs H Q ∨ r' xs H Q) := fun pins s σ H xs us Q I rr hh => hh.elim (h pins s σ H xs us Q I rr) (h' pins s σ H xs us Q I rr)
/-- isinstance(e, Y), isinstance(e, (Y, Z)): an error by its class, None is none -/
def mIsE (cat : Cat) (ma : Ev) : Ev := fun ρ st => (mV ma ρ st).bind fun x s => match x with
  | .o (.er e) => match cat.lookup e.cls with
    | some k => .ok (.d (.bool k)) s
    | none => .no
  | .d .none => .ok (.d (.bool false)) s
  | _ => .no
theorem s_isE {cat : Cat} (B0 : C.K = X.K) (hg : Gl X "isinstance") (hm : X.mg "isinstance" = none) (ha : PE X a (tM C ma)) (gy : Gl X y) (my : X.mg y = some (.ref (He.ga X.K y))) (hE : ∀ z k, cat.lookup z = some k → ErrC X.K (He.ga X.K z) ∧ PySem.W.kitAny X.K (.ref (He.ga X.K z)) [.ref (He.ga X.K y)] = some k)
    (hN : PySem.W.kitAny X.K (.type "NoneType") [.ref (He.ga X.K y)] = some false) (hd : (y == ("__debug__" : Str)) = false := by decide)
    (he : starEach [a, .Name y p2] X.env = (false, eval a X.env) :: starEach [.Name y p2] X.env := by rfl) (hpl : (backTo pos (starEach [.Name y p2] X.env)).any (·.1) = false := by rfl) (he2 : starEach [.Name y p2] X.env = (false, eval (.Name y p2) X.env) :: starEach [] X.env := by rfl) :
    PE X (.Call (.Name "isinstance" p) [a, .Name y p2] [] pos) (tM C (mIsE cat ma)) :=
  (pe_callB (CallR_or call_isi call_isO) hg hm boot_isi (pa_cons (pv_frz ha) (pa_cons (pe_glob (v := .ref (He.ga X.K y)) gy my rfl hd) pa_nil he2) he) (by decide) (by decide) he hpl).imp fun σ H Q ⟨ρ, st, μ, F, h1, h2, h3⟩ => ⟨ρ, st, μ, F, h1, h2, Post.bindV gE_lat h3 fun x s v μ1 F1 H1 x1 r1 k1 h4 => by
    cases x with
    | c _ => exact False.elim h4
    | s _ => exact False.elim h4
    | d d =>
      cases d with
      | none =>
        cases (show Dq C.K F1 v .none from k1)
        exact .inl ⟨.non, .ref (He.ga X.K y), .type "NoneType", .ref (He.ga X.K y), false, rfl, .own _, .base .non, kit1 hN, fin_d r1 h4 (.bl false)⟩
      | _ => exact False.elim h4
    | o o =>
      cases o with
      | fn _ => exact False.elim h4
      | ob _ => exact False.elim h4
      | th _ => exact False.elim h4
      | fns _ => exact False.elim h4
      | tp _ => exact False.elim h4
      | er e =>
        cases q : cat.lookup e.cls with
        | none => simp only [q] at h4; exact False.elim h4
        | some k =>
          simp only [q] at h4
          obtain ⟨a, dd, rfl, e1, e2⟩ := k1
          obtain ⟨T, hk⟩ := hE _ _ q
          rw [B0] at e1
          exact .inr ⟨C.K, a, _, _, dd, e.arg, F1, k, rfl, r1.sub _ _ e1, r1.sub, e2, T, kit1 hk, fin_d r1 h4 (.bl k)⟩⟩
/-- e.f -/
def mErF (zs : List Str) (f : Str) (ma : Ev) : Ev := fun ρ st => (mV ma ρ st).bind fun x s => match x with
  | .o (.er ⟨c, some (g, y)⟩) => if g = f ∧ c ∈ zs then .ok (.d y) s else .no
  | _ => .no
theorem s_erF {zs : List Str} (B0 : C.K = X.K) (ha : PE X a (tM C ma)) (hE : ∀ z, z ∈ zs → ErrC X.K (He.ga X.K z) ∧ PySem.W.findIn X.K (.ref (He.ga X.K z)) f = some none) (hb : attributeBase a f X.env (eval a X.env) = eval a X.env := by rfl) :
    PE X (.Attribute a f pos) (tM C (mErF zs f ma)) := by
  refine ⟨fun pins s σ H Q I ⟨ρ, st, μ, F, h1, h2, h3⟩ => ?_⟩
  refine attr_of hb (thn ((pv_frz ha).run pins s σ H _ I ⟨ρ, st, μ, F, h1, h2, Post.bindV gE_lat h3 fun x s v μ1 F1 H1 x1 r1 k1 h4 => (⟨x, s, μ1, F1, r1, k1, h4⟩ : ∃ x s μ1 F1, SR C.K μ1 F1 H1 s ∧ Vok C.K F1 μ1 x v ∧ Post (C.at σ) (gE (C.at σ) Q) μ1 F1 H1 (match x with
      | .o (.er ⟨c, some (g, y)⟩) => if g = f ∧ c ∈ zs then .ok (.d y) s else .no
      | _ => .no))⟩) fun u s1 hh => ?_)
  obtain ⟨v, H1, I1, rv, x, st1, μ1, F1, r1, k1, h4⟩ := hh
  cases x with
  | c _ => exact False.elim h4
  | s _ => exact False.elim h4
  | d _ => exact False.elim h4
  | o o =>
  cases o with
  | fn _ => exact False.elim h4
  | ob _ => exact False.elim h4
  | th _ => exact False.elim h4
  | fns _ => exact False.elim h4
  | tp _ => exact False.elim h4
  | er e =>
  obtain ⟨c, arg⟩ := e
  cases arg with
  | none => exact False.elim h4
  | some gy =>
    obtain ⟨g, y⟩ := gy
    by_cases hc : g = f ∧ c ∈ zs
    · simp only [if_pos hc] at h4
      obtain ⟨a, dd, rfl, e1, d, w', rfl, e3, e4⟩ := k1
      cases (show u = Value.ref a from rv)
      obtain ⟨T, hno⟩ := hE c hc.2
      rw [B0] at e1
      have ok : ObjOk X.prog X.w H1 s1.heap a (.ext fun h => ∃ oe vs, h.get? a = some oe ∧ Zc (.ref (He.ga X.K c)) (some d) oe ∧ oe.data = .fields vs) := I1.hok a _ (r1.sub _ _ e1)
      obtain ⟨⟨oe, vs, g1, g2, g3⟩, _⟩ := ok
      have hx : ObjOk X.prog X.w H1 s1.heap d (.xd [(g, w')]) := I1.hok d _ (r1.sub _ _ e3)
      obtain ⟨mA, hns, hr⟩ := hx
      obtain ⟨od, ho, hl⟩ := lookIn_ns hns
      have lk : List.lookup f [(g, w')] = some w' := by rw [hc.1]; simp [List.lookup]
      obtain ⟨u, hu, ru⟩ := RelO.some_of (v := w') (o := mA f) (by rw [← lk]; exact hr f)
      have J : PySem.W.InstAt s1.heap a oe (He.ga X.K c) (some od) := ⟨g1, g2.1, by unfold PySem.W.notCls; rw [g3] <;> rfl, by rw [g2.2]; exact ho⟩
      exact HandSPX.exc_get I1.kIn J T.ga T.gt T.su (PySem.W.findObj_own T.hd hno rfl (by rw [hl, hu])) (handed_of ru) ⟨w', H1, I1.tok _, ru, fin_d r1 h4 e4⟩
    · simp only [if_neg hc] at h4
      exact False.elim h4
end
end Cp
namespace Cp
open PySem PySem.Spec PyProof.Rows L2
theorem cat_nil {P : Str → Bool → Prop} : ∀ y v, ([] : Cat).lookup y = some v → P y v := fun _ _ h => by cases h
theorem cat_cons {P : Str → Bool → Prop} {a : Str} {b : Bool} {r : Cat} (h : P a b) (hr : ∀ y v, r.lookup y = some v → P y v) : ∀ y v, ((a, b) :: r : Cat).lookup y = some v → P y v := fun y v e => by
  by_cases q : y = a
  · subst q
    simp [List.lookup] at e
    subst e; exact h
  · have q2 : (y == a) = false := by simpa using q
    simp [List.lookup, q2] at e
    exact hr y v e
theorem zs_nil {P : Str → Prop} : ∀ z, z ∈ ([] : List Str) → P z := fun _ h => nomatch h
theorem zs_cons {P : Str → Prop} {a : Str} {r : List Str} (h : P a) (hr : ∀ z, z ∈ r → P z) : ∀ z, z ∈ a :: r → P z := fun q m => (List.mem_cons.mp m).elim (fun e => e ▸ h) (hr q)
section
variable {X : Cx} {C : Cn} {a b : Expr} {ma mb : Ev} {p p2 pos : Pos}
/-- is None, is not None, of a name that may hold an error -/
def mIsNn (neg : Bool) (ma : Ev) : En → Sto → Res Bool := fun ρ st => (mV ma ρ st).bind fun x s => match x with
  | .o (.er _) => .ok neg s
  | .d d => .ok (xor neg (isNone d)) s
  | _ => .no
def rNn (neg : Bool) : R2 := fun x y H Q => y = .non ∧ Q (.bl (xor neg (decide (x = .non)))) H
theorem op_Nn0 : OpR X (compareOp .Is) (rNn false) := fun pins s σ H x y v u Q I rx ry h => op_isN pins s σ H x y v u Q I rx ry ⟨h.1, by have := h.2; rw [Bool.false_xor] at this; exact this⟩
theorem isNn_core {neg : Bool} {σ : L2.St} {ρ : En} {st : Sto} {μ : Mu} {F H : Hp} {Q : Bool → Hp → Prop} {R : VK} (h1 : Eok C.K F μ ρ σ) (h3 : PostB (C.at σ) Q μ F H (mIsNn neg ma ρ st)) (hR : ∀ k H1, Q k H1 → R (.bl k) H1) :
    PostV (C.at σ) (fun x H1 => rNn neg x .non H1 R) μ F H (mV ma ρ st) :=
  Post.bindV gB_lat (show Post (C.at σ) (gB (C.at σ) Q) μ F H ((mV ma ρ st).bind fun x s => match x with
    | .o (.er _) => .ok neg s
    | .d d => .ok (xor neg (isNone d)) s
    | _ => .no) from h3) fun x s v μ1 F1 H1 x1 r1 k1 h4 => by
    cases x with
    | c _ => exact False.elim h4
    | s _ => exact False.elim h4
    | d d =>
      have e : decide (v = .non) = isNone d := (Vw.of r1.sub (show Dq C.K F1 v d from k1)).isN
      exact ⟨rfl, by rw [e]; exact hR _ _ (h4 μ1 F1 H1 Ext.refl r1)⟩
    | o o =>
      cases o with
      | fn _ => exact False.elim h4
      | ob _ => exact False.elim h4
      | th _ => exact False.elim h4
      | fns _ => exact False.elim h4
      | tp _ => exact False.elim h4
      | er e =>
        obtain ⟨a, dd, rfl, _⟩ := (show ObOk C.K F1 μ1.η (.er e) v from k1)
        have e : decide ((V.ref a : V) = .non) = false := rfl
        exact ⟨rfl, by rw [e, Bool.xor_false]; exact hR _ _ (h4 μ1 F1 H1 Ext.refl r1)⟩
theorem isNn_T {neg : Bool} {op : CmpOp} {j} (ho : OpR X (compareOp op) (rNn neg)) (ha : PE X a (tM C ma)) (hm : behindInMarks op (.Constant .none j p2) = false) : PT X (.Compare a [op] [.Constant .none j p2] pos) (tT C (mIsNn neg ma)) := by
  have h := pt_cmpR (pos := pos) ho (pv_frz ha) (pe_non (X := X) (pos := p2) (j := j)) hm
  refine ⟨fun pins s σ H Q I ⟨ρ, st, μ, F, h1, h2, h3⟩ => h.run pins s σ H Q I ⟨ρ, st, μ, F, h1, h2, ?_⟩⟩
  exact isNn_core (R := fun x H' => ∃ k, x = V.bl k ∧ Q k H') h1 h3 fun k H1 q => ⟨k, rfl, q⟩
theorem t_isNn {j} (ha : PE X a (tM C ma)) : PT X (.Compare a [.Is] [.Constant .none j p2] pos) (tT C (mIsNn false ma)) := isNn_T op_Nn0 ha (nomark _)
end
end Cp
/-! Cf_value: an own error made with one value, kept as its field value. -/
namespace Cfvalue
open PySem PySem.W PySem.Calls PyProof.Rows PySem.HandSPX
def iA (p1 p2 : Pos) : Arguments := { posonlyargs := [], args := [{ arg := "self", annotation := none, pos := p1 }, { arg := "value", annotation := none, pos := p2 }], vararg := none, kwonlyargs := [], kw_defaults := [], kwarg := none, defaults := [] }
def iB (q1 q2 q3 q4 : Pos) : List Stmt := [.Assign [.Attribute (.Name "self" q1) "value" q2] (.Name "value" q3) q4]
def iS : Scope := { kind := .function, names := [(PySem.Str.ofString "self", .local), (PySem.Str.ofString "value", .local)], isGenerator := false, isCoroutine := false, more := [] }
/-- what the written part says of the class at C, and of its __init__, at fI -/
structure Txt (K : Frag) (C fI : Addr) (ql : Str) : Prop where
  cls : ∃ nm q N bs bm sn sub ab col dd k0 k1 k2 k3 k5, K.lookup C = some (excClassObj nm q C N bs bm true sn sub ab col dd k0 k1 k2 k3 k5 "ValueError.__new__") ∧ refsVE bm = true
  sa : findIn K (.ref C) "__setattr__" = some (some (.builtin "object.__setattr__"))
  noN : findIn K (.ref C) "value" = some none
  iC : findIn K (.ref C) "__init__" = some (some (.ref fI))
  tC : typeIn K (.ref fI) = some (.type "function")
  kC : keepIn K (.ref C) = true
  exC : subIn K (.ref C) (.type "BaseException") = some true
  tyC : typeIn K (.ref C) = some (.type "type")
  fn : ∃ (oc : Value) (od : Option Addr) (kV doc pm : Value) (an : Option Addr) (cdv ct : Value) (osl : Array (Option Value)) (p1 p2 q1 q2 q3 q4 : Pos),
    K.lookup fI = some ⟨oc, od, .func (fnOf "__init__" ql (iA p1 p2) (iB q1 q2 q3 q4) iS .none kV doc pm an cdv ct), osl⟩ ∧ codeIn K cdv ql = true
def txtB (x : Str) : Cp.Fb := fun K => Cp.exObjB x K && (He.eqO (findIn K (.ref (He.ga K x)) "__setattr__") (some (some (.builtin "object.__setattr__"))) && (He.eqO (findIn K (.ref (He.ga K x)) "value") (some none) && (He.eqO (findIn K (.ref (He.ga K x)) "__init__") (some (some (.ref (He.ma K (He.ga K x) "__init__")))) &&
  (decide (typeIn K (.ref (He.ma K (He.ga K x) "__init__")) = some (.type "function")) && (keepIn K (.ref (He.ga K x)) && (decide (subIn K (.ref (He.ga K x)) (.type "BaseException") = some true) && decide (typeIn K (.ref (He.ga K x)) = some (.type "type"))))))))
theorem txt_ok {K : Frag} {x ql : Str} {p1 p2 q1 q2 q3 q4 : Pos} {fd : FuncData} (h : txtB x K = true) (F : L2.FunD K "__init__" ql (iA p1 p2) (iB q1 q2 q3 q4) iS [] [] (He.ma K (He.ga K x) "__init__") fd) : Txt K (He.ga K x) (He.ma K (He.ga K x) "__init__") ql := by
  obtain ⟨h1, h⟩ := He.ba h
  obtain ⟨h2, h⟩ := He.ba h
  obtain ⟨h3, h⟩ := He.ba h
  obtain ⟨h4, h⟩ := He.ba h
  obtain ⟨h5, h⟩ := He.ba h
  obtain ⟨h6, h⟩ := He.ba h
  obtain ⟨h7, h8⟩ := He.ba h
  obtain ⟨oc, od, dV, kV, doc, pm, an, cdv, ct, osl, rfl, lk, hcd, hd, _⟩ := F.ex
  have ed : dV = .none := by
    rcases hd with ⟨_, e⟩ | ⟨e, _⟩
    · exact e
    · exact absurd rfl e
  subst ed
  exact ⟨Cp.exObjB_ok h1, He.eqO_ok h2, He.eqO_ok h3, He.eqO_ok h4, of_decide_eq_true h5, h6, of_decide_eq_true h7, of_decide_eq_true h8, oc, od, kV, doc, pm, an, cdv, ct, osl, p1, p2, q1, q2, q3, q4, lk, hcd⟩
theorem one_size (v : Value) : [v].length ≤ sizeLine := by
  rw [sizeLine_eq]
  exact (by decide : 1 ≤ 16777216)
theorem ldC {M : Model} {s : Shared} {name : Str} {scope : Scope} {L a : Addr} {cd : Value} {m : Str → Option Value} {x : Str} {pos : Pos} {v : Value} {Q : Value → Shared → Prop} {A : Around} {E : Value → Shared → Prop} (hn : s.heap.Ns L m) (hv : m x = some v) (h : Q v s)
    (hk : scope.kind = .function := by rfl) (hl : (envOfC name scope L a cd).kindOf x = some .local := by rfl) (hd : (x == ("__debug__" : Str)) = false := by decide) :
    wpAny M A (eval (.Name x pos) (envOfC name scope L a cd)) Q E s := wpAny_Name (wpAny_loadName_local hk hl hn hv h) hd
structure InitEnd (h h' : Heap) (x C dx t1 : Addr) (v : Value) : Prop where
  keep : ∀ b o, b ≠ x → h.get? b = some o → h'.get? b = some o
  obj : h'.get? x = some { cls := .ref C, dict := some dx, data := .fields #[.ref t1, .none, .none, .none, .bool false, .none] }
  dbig : h.objs.size ≤ dx
  dne : dx ≠ x
  ns : h'.Ns1 dx (fun y => if y = "value" then some v else none)
structure OwnMade (h h' : Heap) (e C d : Addr) (v : Value) : Prop where
  keep : ∀ b o, h.get? b = some o → h'.get? b = some o
  new : h.objs.size ≤ e
  obj : ∃ oe vs, h'.get? e = some oe ∧ oe.cls = .ref C ∧ oe.dict = some d ∧ oe.data = .fields vs ∧ vs[1]? = some .none
  dbig : h.objs.size ≤ d
  dne : d ≠ e
  ns : h'.Ns1 d (fun y => if y = "value" then some v else none)
section
variable {prog : Program} {w : World} {A : Around} {E : Value → Shared → Prop} {R : Result → Shared → Prop} {s : Shared} {K : Frag} {C fI : Addr} {ql : Str}
theorem init (T : Txt K C fI ql) {x t0 : Addr} {v : Value} (X : K.In s.heap) (hlim : s.heap.NoLimit) (hx : s.heap.get? x = some (excO C t0)) (hnx : K.lookup x = none) (hroom : A.depth < recursionLimit)
    (hq : ∀ h' tk dx, InitEnd s.heap h' x C dx t0 v → R (.ok (.ret .none)) { s with heap := h', toks := tk }) :
    codeAny (model prog w) A (.call (.ref fI) ⟨[.ref x, v], []⟩) R s := by
  obtain ⟨oc, od, kV, doc, pm, an, cdv, ct, osl, p1, p2, q1, q2, q3, q4, ho, hcd⟩ := T.fn
  obtain ⟨nm, q, N, bs, bm, sn, sub, ab, col, dd, k0, k1, k2, k3, k5, hC, hbm⟩ := T.cls
  have hcl : clsIn K C = some { name := nm, bases := bs, mro := .ref C :: bm, ns := N, qualname := q, hasDict := true, slotNames := sn, subclasses := sub, abstract := ab, collection := col, hasDel := false } := by unfold clsIn; rw [hC] <;> rfl
  refine Att.call_fn (binds := [("self", .ref x), ("value", v)]) X hlim ho hcd hroom (BindsTo.of_eq (by first | rfl | with_unfolding_all rfl)) (by first | rfl | decide | with_unfolding_all rfl) (fun s₁ IC => ?_) rfl rfl rfl
  obtain ⟨h₁, tk₁, rfl⟩ := IC.toInCall.same
  have k : ∀ b o, s.heap.get? b = some o → h₁.get? b = some o := IC.toInCall.keep
  have hn := IC.toInCall.ns
  have hxL : s.heap.objs.size ≠ x := Nat.ne_of_gt (Heap.lt_size hx)
  have X₁ : K.In h₁ := X.keeps k
  have hx₁ := k _ _ hx
  show wpAny _ _ (execs _ _) _ _ _
  refine wpAny_execs_cons (plainObj_wpAny_Assign_Attribute ?_)
  refine ldC (v := v) hn (by first | rfl | with_unfolding_all rfl | kernel_rfl) (ldC (v := .ref x) hn (by first | rfl | with_unfolding_all rfl | kernel_rfl) ?_)
  refine set_plain X₁ (ox := excO C t0) (od := none) ⟨hx₁, rfl, rfl, trivial⟩ T.sa ?_
  refine exc_osa X₁ hx₁ hcl (show refsVE (.ref C :: bm) = true from hbm) rfl T.noN (fun h₃ tk₃ dx k₃ dn dne hx₃ hn₃ => ?_)
  show wpAny _ _ (execs _ _) _ _ _
  have z : s.heap.objs.size < h₁.objs.size := hn.lt
  exact wpAny_execs_nil (hq h₃ tk₃ dx ⟨fun b o hb e => k₃ b o hb (k b o e), hx₃, Nat.le_of_lt (Nat.lt_of_lt_of_le z dn), dne, hn₃⟩)
theorem made (T : Txt K C fI ql) {v : Value} (X : K.In s.heap) (hlim : s.heap.NoLimit) (hroom : A.depth + 1 < recursionLimit)
    (hq : ∀ h' tk e d, OwnMade s.heap h' e C d v → R (.ok (.ret (.ref e))) { s with heap := h', toks := tk }) :
    codeAny (model prog w) A (.call (.ref C) ⟨[v], []⟩) R s := by
  obtain ⟨nm, q, N, bs, bm, sn, sub, ab, col, dd, k0, k1, k2, k3, k5, hC, hbm⟩ := T.cls
  obtain ⟨hp, g, dr, tk, os⟩ := s
  have k : ∀ b o, hp.get? b = some o → ((hp.push (kdv_tup [v])).push (excO C hp.objs.size)).get? b = some o := fun b o e => Heap.get?_push_of_some _ (Heap.get?_push_of_some _ e)
  have hget : ((hp.push (kdv_tup [v])).push (excO C hp.objs.size)).get? (hp.objs.size + 1) = some (excO C hp.objs.size) := by heap_get
  have hnx : K.lookup (hp.objs.size + 1) = none := by
    cases e : K.lookup (hp.objs.size + 1) with
    | none => rfl
    | some o =>
      have z : hp.get? (hp.objs.size + 1) = some o := X _ _ e
      exact absurd (Nat.lt_of_succ_lt (Heap.lt_size z)) (Nat.lt_irrefl _)
  refine call_own F.excBase_ValueError (fun X => refsVE_contains X bm hbm) (X _ _ hC) (looks_findIn X T.iC) (fun self => bind_fn X self T.tC) (one_size v) ?_
  refine init (s := ⟨(hp.push (kdv_tup [v])).push (excO C hp.objs.size), g, dr, tk, os⟩) T (X.keeps k) (hlim.keeps k) hget hnx ?_ fun h' tk' dx ⟨k', hx, dn, dne, hns⟩ => ?_
  · show A.depth + 1 < recursionLimit
    exact hroom
  · have old : ∀ b o, hp.get? b = some o → h'.get? b = some o := fun b o e => k' b o (Nat.ne_of_lt (Nat.lt_succ_of_lt (Heap.lt_size e))) (k b o e)
    have z : hp.objs.size + 1 + 1 ≤ dx := by
      first
        | (simpa only [Heap.size_push] using dn)
        | exact dn
        | (have q := dn; rw [Heap.size_push, Heap.size_push] at q; exact q)
    exact ⟨rfl, hq h' tk' (hp.objs.size + 1) dx ⟨old, Nat.le_succ _, ⟨_, _, hx, rfl, rfl, rfl, rfl⟩, Nat.le_trans (Nat.le_trans (Nat.le_succ _) (Nat.le_succ _)) z, dne, hns⟩⟩
end
end Cfvalue
namespace Cp
open PySem PySem.Spec PyProof.Rows L2
theorem relO_value {v : V} {v' : Value} (r : RelV v v') (f : Str) : RelO (List.lookup f [(("value" : Str), v)]) (if f = "value" then some v' else none) := by
  by_cases hw : f = "value"
  · subst hw
    rw [if_pos rfl]
    have q : List.lookup ("value" : Str) [(("value" : Str), v)] = some v := by simp [List.lookup]
    rw [q]
    exact r
  · rw [if_neg hw]
    have qw : (f == ("value" : Str)) = false := by simpa using hw
    have q2 : List.lookup f [(("value" : Str), v)] = none := by simp [List.lookup, qw]
    rw [q2]
    trivial
section
variable {X : Cx} {C fI : Addr} {ql x : Str}
def tMk_value (C : Addr) (ta : TA) : L2.St → Hp → XK → Prop := fun σ H Q => ta σ H fun vs H1 => ∃ v, vs = [v] ∧ ∀ d, H1 d = none → Q (.ref C) (some d) (upd H1 d (.xd [(("value" : Str), v)]))
theorem pmk_value {a : Expr} {ta : TA} {p pos : Pos} {k : Nat} (T : Cfvalue.Txt X.K C fI ql) (gC : X.mg x = some (.ref C)) (hr : Room k X.A) (ha : PA X [a] ta) (hg : Gl X x) (hdb : (x == ("__debug__" : Str)) = false := by decide)
    (he : starEach (a :: []) X.env = (false, eval a X.env) :: starEach [] X.env := by rfl) (hpl : (backTo pos (starEach [] X.env)).any (·.1) = false := by rfl) :
    PMk X (.Call (.Name x p) [a] [] pos) (tMk_value C ta) := by
  intro pins s σ H Q I h
  refine wpAny_Call_Name_kw (ld_glob I hg gC ?_ hdb)
  refine PySem.W.callWith_K (h₀ := X.base) I.ok.mod.kin T.kC (thn (ha.run pos pins s σ H _ I h) fun us s1 hh => ?_) he hpl
  obtain ⟨vs, H1, I1, r1, v, ev, q1⟩ := hh
  subst ev
  refine ⟨I1.kIn, ?_⟩
  cases r1 with
  | cons rv rn =>
    rename_i v' us'
    cases rn
    show wpAny _ _ (call (.ref C) [v']) _ _ _
    have hlim := I1.nolimit
    obtain ⟨hp, g, dr, tk, os⟩ := s1
    refine wpAny_call (Cfvalue.made T I1.kIn hlim (by have := hr.dp; omega) fun h' tk' e d M => ?_)
    show MkP X pins σ Q (.ref e) ⟨h', g, dr, tk', os⟩
    obtain ⟨oe, fv, hoe, hc, hd, hdat, h1⟩ := M.obj
    have hns := M.ns
    obtain ⟨G', g1, g2⟩ := restrict h' fun b => decide (b ≠ e)
    have gk : ∀ b, b ≠ e → G'.get? b = h'.get? b := fun b hb => g1 b (decide_eq_true hb)
    have ge : G'.get? e = none := g2 e (by simp)
    have old : ∀ b o, hp.get? b = some o → G'.get? b = some o := fun b o q => (gk b (Nat.ne_of_lt (Nat.lt_of_lt_of_le (Heap.lt_size q) M.new))).trans (M.keep b o q)
    have ob : ObjOk X.prog X.w (upd H1 d (.xd [(("value" : Str), v)])) G' d (.xd [(("value" : Str), v)]) :=
      ⟨_, hns.at (fun o q => (gk d M.dne).trans q), fun f => relO_value rv f⟩
    have J : Inv X pins σ (upd H1 d (.xd [(("value" : Str), v)])) ⟨G', g, dr, tk', os⟩ := I1.laid (t' := tk') old M.dbig ob
    refine ⟨e, oe, fv, ⟨G', g, dr, tk', os⟩, _, .ref C, some d, rfl, J, fun b o q => ?_, ge, hoe, ⟨hc, hd⟩, hdat, h1, ?_, rfl, I1.bare, raises_own T.exC T.tyC, q1 d (I1.hok.fresh M.dbig)⟩
    · by_cases hb : b = e
      · have q' : G'.get? b = some o := q
        rw [hb, ge] at q'; cases q'
      · exact (gk b hb).symm.trans q
    · rw [upd_ne (Ne.symm M.dne)]
      exact I1.hok.fresh M.new
/-- raise X(e) -/
theorem x_raise_value {k : Nat} {Cc : Cn} {a : Expr} {mas : En → Sto → Res (List Vl)} {p pos pos2 : Pos} (B : Bd k X Cc) (T : Cfvalue.Txt X.K (He.ga X.K x) fI ql) (gC : X.mg x = some (.ref (He.ga X.K x))) (hg : Gl X x) (ha : PA X [a] (tAs Cc mas)) (hdb : (x == ("__debug__" : Str)) = false := by decide)
    (he : starEach (a :: []) X.env = (false, eval a X.env) :: starEach [] X.env := by rfl) (hpl : (backTo pos (starEach [] X.env)).any (·.1) = false := by rfl) :
    PS X (.Raise (some (.Call (.Name x p) [a] [] pos)) none pos2) (tS Cc (sRaise1 x "value" mas)) :=
  (ps_raise B.cm B.tk (pmk_value T gC B.rm.room ha hg hdb he hpl)).imp fun D σ H ⟨ρ, st, μ, F, h1, h2, h3⟩ => ⟨ρ, st, μ, F, h1, h2, PostS.bindA h3 fun xs s vs μ1 F1 H1 x1 r1 k1 h4 => by
    match xs, k1, h4 with
    | [], _, h4 => exact False.elim h4
    | z :: _ :: _, _, h4 => cases z <;> exact False.elim h4
    | [.c _], _, h4 => exact False.elim h4
    | [.s _], _, h4 => exact False.elim h4
    | [.o _], _, h4 => exact False.elim h4
    | [.d y], .cons kv .nil, h4 =>
      refine ⟨_, rfl, fun d hd => ?_⟩
      obtain ⟨r2, x2⟩ := r1.newly (o := .xd [(("value" : Str), _)]) hd
      have dd := r1.dead hd
      obtain ⟨r3, x3, sm⟩ := r2.freeze x2 r1.sub hd upd_same dd.1 dd.2
      exact h4 _ _ μ1 _ _ x3 r3 ⟨by rw [← B.hK], ⟨d, _, rfl, upd_same, Dq.same sm kv⟩⟩⟩
end
end Cp
/-! Cx: weakest preconditions of errors, tries, whiles, dicts. -/
namespace Cp
open PySem L2
section
variable {E : Er → Sto → Prop} {st : Sto} {ρ : En} {N B C : En → Sto → Prop} {R : Rv → Sto → Prop} {PE : Rv → Sto → Prop} {PB : Bool → Sto → Prop} {ma mb mc : Ev} {mas : En → Sto → Res (List Vl)} {cat : Cat}
@[simp] theorem W_sRaise (x : Str) : WSe E (sRaise x ρ st) N B C R = E ⟨x, none⟩ st := rfl
@[simp] theorem W_sRaise1 (x f : Str) : WSe E (sRaise1 x f mas ρ st) N B C R = WVe E (mas ρ st) fun xs s => match xs with
    | [.d y] => E ⟨x, some (f, y)⟩ s
    | _ => False := by
  unfold sRaise1; rw [WS_toS]
  congr 1; funext xs s
  cases xs with
  | nil => rfl
  | cons x r => cases r with
    | nil => cases x <;> rfl
    | cons y r => cases x <;> rfl
@[simp] theorem W_sTry (i : Nat) (sb ss : Sv) : WSe E (sTry i cat sb ss ρ st) N B C R = WSe (fun e s => match cat.lookup e.cls with
    | some true => WSe noE (ss (ρ.set i (some (.o (.er e)))) s) (fun ρ' s' => N (ρ'.set i none) s') (fun ρ' s' => B (ρ'.set i none) s') (fun ρ' s' => C (ρ'.set i none) s') R
    | some false => E e s
    | none => False) (sb ρ st) N B C R := by
  unfold sTry
  cases sb ρ st with
  | er e s =>
    show WSe E (match cat.lookup e.cls with
      | some true => _
      | some false => .er e s
      | none => .no) N B C R = match cat.lookup e.cls with
      | some true => _
      | some false => E e s
      | none => False
    cases cat.lookup e.cls with
    | none => rfl
    | some v =>
      cases v with
      | false => rfl
      | true => dsimp only; cases ss (ρ.set i (some (.o (.er e)))) s <;> rfl
  | _ => rfl
@[simp] theorem W_sTryN (sb ss : Sv) : WSe E (sTryN cat sb ss ρ st) N B C R = WSe (fun e s => match cat.lookup e.cls with
    | some true => WSe noE (ss ρ s) N B C R
    | some false => E e s
    | none => False) (sb ρ st) N B C R := by
  unfold sTryN
  cases sb ρ st with
  | er e s =>
    show WSe E (match cat.lookup e.cls with
      | some true => _
      | some false => .er e s
      | none => .no) N B C R = match cat.lookup e.cls with
      | some true => _
      | some false => E e s
      | none => False
    cases cat.lookup e.cls with
    | none => rfl
    | some v =>
      cases v with
      | false => rfl
      | true => dsimp only; cases ss ρ s <;> rfl
  | _ => rfl
@[simp] theorem W_mIsE : WVe E (mIsE cat ma ρ st) PE = WVe E (ma ρ st) fun r s => match frz r with
    | .o (.er e) => WO (cat.lookup e.cls) fun k => PE (.d (.bool k)) s
    | .d .none => PE (.d (.bool false)) s
    | _ => False := by
  unfold mIsE; rw [WV_bind, W_mV]
  congr 1; funext r s
  generalize frz r = v
  cases v with
  | o o =>
    cases o with
    | er e => dsimp only; cases cat.lookup e.cls <;> rfl
    | _ => rfl
  | d d => cases d <;> rfl
  | _ => rfl
@[simp] theorem W_mErF (zs : List Str) (f : Str) : WVe E (mErF zs f ma ρ st) PE = WVe E (ma ρ st) fun r s => match frz r with
    | .o (.er ⟨c, some (g, y)⟩) => (g = f ∧ c ∈ zs) ∧ PE (.d y) s
    | _ => False := by
  unfold mErF; rw [WV_bind, W_mV]
  congr 1; funext r s
  generalize frz r = v
  cases v with
  | o o =>
    cases o with
    | er e =>
      obtain ⟨c, a⟩ := e
      cases a with
      | none => rfl
      | some p =>
        obtain ⟨g, y⟩ := p
        dsimp only
        by_cases h : g = f ∧ c ∈ zs
        · rw [if_pos h]; exact propext ⟨fun z => ⟨h, z⟩, fun z => z.2⟩
        · rw [if_neg h]; exact propext ⟨fun z => False.elim z, fun z => absurd z.1 h⟩
    | _ => rfl
  | _ => rfl
@[simp] theorem W_mIsNn (neg : Bool) : WVe E (mIsNn neg ma ρ st) PB = WVe E (ma ρ st) fun r s => match frz r with
    | .o (.er _) => PB neg s
    | .d d => PB (xor neg (isNone d)) s
    | _ => False := by
  unfold mIsNn; rw [WV_bind, W_mV]
  congr 1; funext r s
  generalize frz r = v
  cases v with
  | o o => cases o <;> rfl
  | _ => rfl
/-! ### dicts -/
@[simp] theorem W_mD0 : WVe E (mD0 ρ st) PE = PE (.n (.m [])) st := rfl
@[simp] theorem W_mPairs_nil {PA : List (PyData × PyData) → Sto → Prop} : WVe E (mPairs [] ρ st) PA = PA [] st := rfl
@[simp] theorem W_mPairs_cons {mk mv : Ev} {r : List (Ev × Ev)} {PA : List (PyData × PyData) → Sto → Prop} : WVe E (mPairs ((mk, mv) :: r) ρ st) PA = WVe E (mk ρ st) fun x s1 => WVe E (mv ρ s1) fun y s2 => match frz x, frz y with
    | .d a, .d b => WVe E (mPairs r ρ s2) fun kvs s3 => PA ((a, b) :: kvs) s3
    | _, _ => False := by
  rw [mPairs, WV_bind, W_mV]
  congr 1; funext x s1; rw [WV_bind, W_mV]
  congr 1; funext y s2
  generalize frz x = x
  generalize frz y = y
  cases x with
  | d a => cases y with
    | d b => dsimp only; rw [WV_bind]; rfl
    | _ => rfl
  | _ => rfl
@[simp] theorem W_mDct (prs : List (Ev × Ev)) : WVe E (mDct prs ρ st) PE = WVe E (mPairs prs ρ st) fun kvs s => ((keysD kvs).isSome = true ∧ kvs.length ≤ 15) ∧ PE (.n (.m kvs)) s := by
  unfold mDct; rw [WV_bind]
  congr 1; funext kvs s
  by_cases h : (keysD kvs).isSome = true ∧ kvs.length ≤ 15
  · rw [if_pos h]; exact propext ⟨fun z => ⟨h, z⟩, fun z => z.2⟩
  · rw [if_neg h]; exact propext ⟨fun z => False.elim z, fun z => absurd z.1 h⟩
@[simp] theorem flK_nil : flK [] = true := rfl
@[simp] theorem flK_str (x : Str) (d : PyData) (r : List (PyData × PyData)) : flK ((.str x, d) :: r) = flK r := rfl
@[simp] theorem flK_int (x : Int) (d : PyData) (r : List (PyData × PyData)) : flK ((.int x, d) :: r) = flK r := rfl
@[simp] theorem vRv_eq (x : Vl) : vRv x = Rv.of x := by cases x <;> rfl
@[simp] theorem W_mDGet2 : WVe E (mDGet2 ma mb mc ρ st) PE = WVe E (ma ρ st) fun r1 s1 => match view s1 (frz r1) with
    | some (.dict kvs0) => flK kvs0 = true ∧ WVe E (mb ρ s1) fun r2 s2 => WVe E (mc ρ s2) fun r3 s3 => (match view s3 (frz r1), frz r2 with
      | some (.dict kvs), .d y => flK kvs = true ∧ (keyD y).isSome = true ∧ (match lookK kvs y with
        | some v => PE (.d v) s3
        | none => PE (Rv.of (frz r3)) s3)
      | _, _ => False)
    | _ => False := by
  unfold mDGet2; rw [WV_bind, W_mV]
  congr 1; funext r1 s1
  cases view s1 (frz r1) with
  | none => rfl
  | some d =>
    cases d with
    | dict kvs0 =>
      dsimp only
      by_cases hf0 : flK kvs0 = true
      case neg => rw [if_neg hf0]; exact propext ⟨fun z => False.elim z, fun z => absurd z.1 hf0⟩
      rw [if_pos hf0, and_iff_right hf0, WV_bind, W_mV]
      congr 1; funext r2 s2; rw [WV_bind, W_mV]
      congr 1; funext r3 s3
      generalize frz r2 = y
      cases view s3 (frz r1) with
      | none => rfl
      | some d =>
        cases d with
        | dict kvs =>
          cases y with
          | d y =>
            dsimp only
            by_cases hf : flK kvs = true
            case neg => rw [if_neg hf]; exact propext ⟨fun z => False.elim z, fun z => absurd z.1 hf⟩
            rw [if_pos hf, and_iff_right hf]
            by_cases h : (keyD y).isSome = true
            · rw [if_pos h]
              cases lookK kvs y with
              | none => rw [vRv_eq]; exact propext ⟨fun z => ⟨h, z⟩, fun z => z.2⟩
              | some v => exact propext ⟨fun z => ⟨h, z⟩, fun z => z.2⟩
            · rw [if_neg h]; exact propext ⟨fun z => False.elim z, fun z => absurd z.1 h⟩
          | _ => rfl
        | _ => rfl
    | _ => rfl
/-! ### while -/
/-- a while, by what stands while so many turns are left at most -/
theorem whGo_by {c : En → Sto → Res Bool} {b : Sv} (I : Nat → En → Sto → Prop) : ∀ (n m : Nat) {ρ : En} {st : Sto}, m < n → I m ρ st →
    (∀ k ρ s, I k ρ s → WVe E (c ρ s) fun t s1 => if t = true then ∃ k', k = k' + 1 ∧ WSe E (b ρ s1) (I k') N (I k') R else N ρ s1) → WSe E (whGo c b n ρ st) N B C R
  | 0, _, _, _, h, _, _ => absurd h (Nat.not_lt_zero _)
  | n + 1, m, ρ, st, h, h0, hs => by
    unfold whGo
    rw [WS_toS]
    refine WV_mono (hs m ρ st h0) fun t s1 ht => ?_
    cases t with
    | false => simp only [Bool.false_eq_true, if_false] at ht ⊢; exact ht
    | true =>
      simp only [if_true] at ht ⊢
      obtain ⟨k', e, hb⟩ := ht
      cases q : b ρ s1 with
      | nx ρ2 s2 => rw [q] at hb; exact whGo_by I n k' (by omega) hb hs
      | ct ρ2 s2 => rw [q] at hb; exact whGo_by I n k' (by omega) hb hs
      | bk ρ2 s2 => rw [q] at hb; exact hb
      | rt v s2 => rw [q] at hb; exact hb
      | er e s2 => rw [q] at hb; exact hb
      | no => rw [q] at hb; exact hb
end
end Cp
/-! Cy: a dict from texts to defs, and the call of what it holds. -/
namespace Cp
open PySem PySem.Spec PyProof.Rows L2
section
variable {X : Cx} {C : Cn} {k j : Nat} {p pos pos1 : Pos} {d e : Expr} {es : List Expr} {md mk : Ev} {mas : En → Sto → Res (List Vl)} {keys : List (Option Expr)} {values : List Expr}
abbrev fnW (K : PySem.W.Frag) (tbl : List (Str × Str)) : List (Key × V) := tbl.map fun p => (.inr p.1, .ref (He.ga K p.2))
end
end Cp
/-! Cz: names written from a list's items. -/
namespace Cp
open PySem PySem.Spec PyProof.Rows L2
section
variable {X : Cx} {C : Cn} {es : List Expr} {pos : Pos}
/-- (a, b, ..) = a list of that length -/
def gTl (n : Nat) (r : Gms) : Gm := fun x ρ st => match x with
  | .d (.list ds) => if ds.length = n then r ds ρ st else .no
  | _ => .no
@[simp] theorem W_gTl {E : Er → Sto → Prop} {ρ : En} {st : Sto} {PR : En → Sto → Prop} (n : Nat) (r : Gms) (ds : List PyData) : WVe E (gTl n r (.d (.list ds)) ρ st) PR = (ds.length = n ∧ WVe E (r ds ρ st) PR) := by
  unfold gTl
  by_cases h : ds.length = n <;> simp [h]
end
end Cp
/-! Cg: a tuple turned round, t[::-1]. -/
namespace Cp
open PySem PySem.Spec PyProof.Rows L2
section
variable {prog : Program} {w : World} {A : Around} {E : Value → Shared → Prop} {s : Shared}
theorem adjR (n : Nat) : Builtin.Slice.sliceAdjust none none (-1) (n : Int) = ((n : Int) - 1, -1) := by
  unfold Builtin.Slice.sliceAdjust
  rfl
theorem plcR (n : Nat) : Builtin.Slice.slicePlaces ((n : Int) - 1) (-1) (-1) = n := by
  unfold Builtin.Slice.slicePlaces
  have h1 : ¬ ((-1 : Int) > 0) := by omega
  simp only [h1, if_false, Int.neg_neg, Int.ediv_one]
  split <;> omega
theorem pckR (xs : Array Value) : ((List.range xs.size).filterMap fun (m : Nat) => xs[(((xs.size : Nat) : Int) - 1 + (m : Int) * (-1)).toNat]?).toArray = xs.toList.reverse.toArray := by
  have e : (fun (m : Nat) => xs[(((xs.size : Nat) : Int) - 1 + (m : Int) * (-1)).toNat]?) = (xs[·]?) ∘ fun k => xs.size - 1 - k := by
    funext m
    have : (((xs.size : Nat) : Int) - 1 + (m : Int) * (-1)).toNat = xs.size - 1 - m := by omega
    show xs[(((xs.size : Nat) : Int) - 1 + (m : Int) * (-1)).toNat]? = xs[xs.size - 1 - m]?
    rw [this]
  rw [e, ← List.filterMap_map, PySem.W.krv_range, List.filterMap_reverse, PySem.W.krv_all]
theorem slpR {sl : Addr} {vl vu vs : Value} {n : Nat} {R : Int × Int × Nat → Shared → Prop} (hs : s.heap.IsSliceOf sl vl vu vs) (pl : IsPart vl none) (pu : IsPart vu none) (ps : IsPart vs (some (-1))) (h : R ((n : Int) - 1, -1, n) s) :
    wpAny (model prog w) A (Builtin.Slice.sliceApplied (.ref sl) (pure (n : Int))) R E s := by
  obtain ⟨os, hos, hcs, hds⟩ := id hs
  unfold Builtin.Slice.sliceApplied Builtin.Slice.sliceFields
  refine wpAny_bind (wpAny_bind (wpAny_field hos hds (x := vl) rfl (wpAny_bind (wpAny_field hos hds (x := vu) rfl (wpAny_bind (wpAny_field hos hds (x := vs) rfl (wpAny_pure ?_)))))))
  refine wpAny_bind (HT.slicePart_ ps ?_)
  show wpAny _ _ (if ((-1 : Int) == 0) = true then _ else _) _ _ s
  rw [if_neg (by decide)]
  refine wpAny_bind (HT.slicePart_ pl (wpAny_bind (HT.slicePart_ pu (wpAny_bind (wpAny_pure ?_)))))
  show wpAny _ _ (match Builtin.Slice.sliceAdjust none none (-1) (n : Int) with | (lo, hi) => pure (lo, (-1 : Int), Builtin.Slice.slicePlaces lo hi (-1))) _ _ s
  rw [adjR]
  show wpAny _ _ (pure ((n : Int) - 1, (-1 : Int), Builtin.Slice.slicePlaces ((n : Int) - 1) (-1) (-1))) _ _ s
  rw [plcR]
  exact wpAny_pure h
theorem getR {t sl : Addr} {us : Array Value} {vl vu vs : Value} {R : Value → Shared → Prop} (ht : IsTup s.heap t us) (hs : s.heap.IsSliceOf sl vl vu vs) (pl : IsPart vl none) (pu : IsPart vu none) (ps : IsPart vs (some (-1)))
    (h : R (.ref s.heap.objs.size) { s with heap := s.heap.push { cls := .type "tuple", data := .seq us.toList.reverse.toArray } }) (hz : us.size ≤ sizeLine) : wpAny (model prog w) A (getItem (.ref t) (.ref sl)) R E s := by
  have ok : sizeOk (.seq us.toList.reverse.toArray) := by
    show us.toList.reverse.toArray.size ≤ sizeLine
    rw [List.size_toArray, List.length_reverse, Array.length_toList]
    exact hz
  obtain ⟨os, hos, hcs, hds⟩ := id hs
  have hT : s.TypeIs (.ref sl) "slice" := ⟨os, hos, hcs⟩
  unfold getItem
  try with_reducible refine wpAny_holding ?_
  first | refine wpAny_bind (wpAny_pure ?_) | skip
  refine wpAny_bind (wpAny_sequenceKey ht.typeIs (by decide) ?_)
  refine wpAny_bind (wpAny_callSpecial?_slot (name := Str.ofString "__getitem__") ht.typeIs slot_tuple_getitem (wpAny_call_entry slot_tuple_getitem ht.typeIs entry_tuple_getitem ?_ (args_tuple_getitem _ _)))
  show wpAny _ _ (Builtin.Tuple.tupleItemsOf (.ref t) >>= _) _ _ s
  refine wpAny_bind (tupleItemsOf_ ht (wpAny_bind (wpAny_typeOf hT ?_)))
  rw [if_pos (by decide)]
  refine wpAny_bind (slpR hs pl pu ps ?_)
  have no : ¬ (((((us.size : Nat) : Int) - 1) == 0 && (-1 : Int) == 1 && us.size == us.size) = true) := by
    intro q
    rw [Bool.and_eq_true, Bool.and_eq_true] at q
    exact absurd q.1.2 (by decide)
  show wpAny _ _ (if ((((us.size : Nat) : Int) - 1) == 0 && (-1 : Int) == 1 && us.size == us.size) = true then _ else _) _ _ s
  rw [if_neg no, pckR]
  first
    | exact wpAny_bind (m := Builtin.Tuple.tupleExact _) (wpAny_newObj_type (wpAny_pure ⟨_, rfl, wpAny_pure h⟩) ok)
    | exact wpAny_bind (m := Builtin.Tuple.tupleExact _) (wpAny_newObj_type (wpAny_bind (wpAny_pure (wpAny_pure ⟨_, rfl, wpAny_pure h⟩))) ok)
    | exact wpAny_bind (wpAny_bind (m := Builtin.Tuple.tupleExact _) (wpAny_newObj_type (wpAny_pure (wpAny_pure ⟨_, rfl, wpAny_pure h⟩)) ok))
    | exact wpAny_bind (wpAny_bind (m := Builtin.Tuple.tupleExact _) (wpAny_newObj_type (wpAny_pure ⟨_, rfl, wpAny_pure h⟩) ok))
end
section
variable {X : Cx} {C : Cn} {a : Expr} {ma : Ev} {p1 p2 p3 pos : Pos}
def tTurn (K : PySem.W.Frag) (te : TE) : TE := fun σ H Q => te σ H fun x H1 => ∃ a xs, x = .ref a ∧ SqT K H1 a xs ∧ ∀ p, H1 p = none → Q (.ref p) (upd H1 p (.tup xs.reverse))
theorem pe_turn {e : Expr} {te : TE} {k : Nat} (he : PE X e te) : PE X (.Subscript e (.Slice none none (some (.UnaryOp .USub (.Constant (.int 1) k p1) p2)) p3) pos) (tTurn X.K te) := by
  refine ⟨fun pins s σ H Q I h => ?_⟩
  refine Subscript_ (thn (he.run pins s σ H _ I h) fun v s1 ⟨x, H1, I1, r1, a, xs, ex, hx, q⟩ => ?_)
  subst ex
  cases r1
  have hst : PO X (some (.UnaryOp .USub (.Constant (.int 1) k p1) p2)) (tPart (tUn (rU fun i => .int (-i)) (tC (.int 1)))) := po_some (pe_un un_neg pe_int)
  refine wpAny_Slice (thn (po_none.run pins s1 σ H1 (fun o H2 => o = none ∧ H2 = H1) I1 ⟨rfl, rfl⟩) fun vl s2 ⟨l, H2, I2, pl, el, e2⟩ => ?_)
  subst el e2
  refine thn (po_none.run pins s2 σ H2 (fun o H3 => o = none ∧ H3 = H2) I2 ⟨rfl, rfl⟩) fun vu s3 ⟨u, H3, I3, pu, eu, e3⟩ => ?_
  subst eu e3
  refine thn (hst.run pins s3 σ H3 (fun o H4 => o = some (-1) ∧ H4 = H3) I3 ⟨1, rfl, -1, rfl, rfl, rfl⟩) fun vs s4 ⟨o, H4, I4, ps, eo, e4⟩ => ?_
  subst eo e4
  have I5 : L2.Inv X pins σ H4 { s4 with heap := s4.heap.push { cls := .type "slice", data := .fields #[vl, vu, vs] } } := I4.kept (t' := s4.toks) fun b ob q => Heap.get?_push_of_some _ q
  obtain ⟨us, r, ht, hz⟩ := I5.tuple hx
  have hlen := r.length
  show wpAny (model X.prog X.w) X.A (subscriptTail e (.Slice none none (some (.UnaryOp .USub (.Constant (.int 1) k p1) p2)) p3) (.ref a) (.ref s4.heap.objs.size)) (EP X pins σ Q) X.xe { s4 with heap := s4.heap.push { cls := .type "slice", data := .fields #[vl, vu, vs] } }
  refine tail_any (ops := [.ref a, .ref s4.heap.objs.size]) ht.typeIs slot_tuple_getitem.lookup ?_ (by with_unfolding_all rfl)
  refine getR ht (Heap.IsSliceOf.new _ vl vu vs) pl pu ps ?_ (by rw [List.size_toArray]; omega)
  refine ⟨.ref _, _, I5.laid (t' := s4.toks) (o := .tup xs.reverse) (fun b ob q => Heap.get?_push_of_some _ q) (Nat.le_refl _) ?_, rfl, q _ (I5.hok.fresh (Nat.le_refl _))⟩
  exact ⟨by rw [List.length_reverse]; exact hz, _, r.reverse, IsTup.new _ _⟩
/-- what is never reached -/
def mNo : Ev := fun _ _ => .no
def mTurnT (ma : Ev) : Ev := fun ρ st => (mV ma ρ st).bind fun x s => match x with
  | .d (.tuple ds) => .ok (.d (.tuple ds.reverse)) s
  | _ => .no
def mTurnL (ma : Ev) : Ev := fun ρ st => (mV ma ρ st).bind fun x s => match x with
  | .d (.list ds) => .ok (.n (.l ds.reverse)) s
  | _ => .no
def mTurn (ma : Ev) : Ev := fun ρ st => (mV ma ρ st).bind fun x s => match x with
  | .d (.tuple ds) => .ok (.d (.tuple ds.reverse)) s
  | .d (.list ds) => .ok (.n (.l ds.reverse)) s
  | _ => .no
theorem s_turnL {k : Nat} (ha : PE X a (tM C ma)) (hK : C.K.K = X.K) : PE X (.Subscript a (.Slice none none (some (.UnaryOp .USub (.Constant (.int 1) k p1) p2)) p3) pos) (tM C (mTurnL ma)) :=
  (pe_revL (pv_frz ha)).imp fun σ H Q ⟨ρ, st, μ, F, h1, h2, h3⟩ => ⟨ρ, st, μ, F, h1, h2, Post.bindV gE_lat h3 fun x s v μ1 F1 H1 x1 r1 k1 h4 => by
    cases x with
    | c _ => exact False.elim h4
    | s _ => exact False.elim h4
    | o _ => exact False.elim h4
    | d x =>
      cases x with
      | list ds =>
        cases (show Dq C.K F1 v (.list ds) from k1) with
        | lst q1 q2 => exact ⟨_, _, rfl, SqL.of (r1.sub _ _ q1), fun p hp => fin_n r1 h4 hp ⟨_, rfl, q2.rev⟩⟩
      | _ => exact False.elim h4⟩
theorem s_turnT {k : Nat} (ha : PE X a (tM C ma)) : PE X (.Subscript a (.Slice none none (some (.UnaryOp .USub (.Constant (.int 1) k p1) p2)) p3) pos) (tM C (mTurnT ma)) :=
  (pe_turn (pv_frz ha)).imp fun σ H Q ⟨ρ, st, μ, F, h1, h2, h3⟩ => ⟨ρ, st, μ, F, h1, h2, Post.bindV gE_lat h3 fun x s v μ1 F1 H1 x1 r1 k1 h4 => by
    cases x with
    | c _ => exact False.elim h4
    | s _ => exact False.elim h4
    | o _ => exact False.elim h4
    | d x =>
      cases x with
      | tuple ds =>
        cases (show Dq C.K F1 v (.tuple ds) from k1) with
        | tup q1 q2 => exact ⟨_, _, rfl, SqT.rd r1.sub q1, fun p hp => fin_t r1 h4 hp q2.rev⟩
      | _ => exact False.elim h4⟩
theorem turn_or (ρ : En) (st : Sto) : mTurnT ma ρ st = mTurn ma ρ st ∨ mTurnL ma ρ st = mTurn ma ρ st := by
  unfold mTurnT mTurnL mTurn
  cases mV ma ρ st with
  | ok x s =>
    cases x with
    | d x => cases x <;> first | exact .inl rfl | exact .inr rfl
    | _ => exact .inl rfl
  | er e s => exact .inl rfl
  | no => exact .inl rfl
theorem s_turn {k : Nat} (hK : C.K.K = X.K) (ha : PE X a (tM C ma)) : PE X (.Subscript a (.Slice none none (some (.UnaryOp .USub (.Constant (.int 1) k p1) p2)) p3) pos) (tM C (mTurn ma)) :=
  ⟨fun pins s σ H Q I ⟨ρ, st, μ, F, h1, h2, h3⟩ => by
    rcases turn_or (ma := ma) ρ st with e | e
    · exact (s_turnT ha).run pins s σ H Q I ⟨ρ, st, μ, F, h1, h2, by dsimp only; rw [e]; exact h3⟩
    · exact (s_turnL ha hK).run pins s σ H Q I ⟨ρ, st, μ, F, h1, h2, by dsimp only; rw [e]; exact h3⟩⟩
end
section
variable {E : Er → Sto → Prop} {ρ : En} {st : Sto} {PE : Rv → Sto → Prop} {ma : Ev}
@[simp] theorem W_mNo : WVe E (mNo ρ st) PE = False := rfl
@[simp] theorem W_mTurn : WVe E (mTurn ma ρ st) PE = WVe E (ma ρ st) fun r s => match frz r with
    | .d (.tuple ds) => PE (.d (.tuple ds.reverse)) s
    | .d (.list ds) => PE (.n (.l ds.reverse)) s
    | _ => False := by
  unfold mTurn; rw [WV_bind, W_mV]
  congr 1; funext r s
  cases frz r with
  | d x => cases x <;> rfl
  | c _ => rfl
  | s _ => rfl
  | o _ => rfl
end
end Cp
/-! Cn: tuples and tables of the module, name += e. -/
namespace Cp
open PySem L2
/-! ### a tuple of texts of the module, on the right of in -/
def isS (v : Value) (z : Str) : Bool := match v with
  | .str y _ => decide (y = z)
  | _ => false
def strsV : List Value → List Str → Bool
  | [], [] => true
  | v :: r, z :: zs => isS v z && strsV r zs
  | _, _ => false
def tupB (x : Str) (zs : List Str) : Fb := fun K => (He.Fa.glo x).ok K && match K.lookup (He.ga K x) with
  | some ⟨.type c, _, .seq its _, _⟩ => decide (c = "tuple") && (decide (its.size ≤ 1000) && strsV its.toList zs)
  | _ => false
theorem isS_ok {v : Value} {z : Str} (h : isS v z = true) : RelV (.str z) v := by
  unfold isS at h
  split at h
  · rename_i y t
    have e : y = z := of_decide_eq_true h
    subst e
    exact ⟨t, rfl⟩
  · cases h
theorem strsV_ok : ∀ {vs : List Value} {zs : List Str}, strsV vs zs = true → Vals (zs.map V.str) vs
  | [], [], _ => .nil
  | v :: r, z :: zs, h => by
    unfold strsV at h
    rw [Bool.and_eq_true] at h
    exact .cons (isS_ok h.1) (strsV_ok h.2)
  | [], _ :: _, h => by cases h
  | _ :: _, [], h => by cases h
/-- where the tuple stands -/
structure TupC (K : PySem.W.Frag) (mg : Str → Option Value) (x : Str) (zs : List Str) : Prop where
  g : mg x = some (.ref (He.ga K x))
  t : ∀ H, SqT K H (He.ga K x) (zs.map V.str)
theorem tupB_ok {x : Str} {zs : List Str} {K : PySem.W.Frag} {h : Heap} {mg : Str → Option Value} (X : K.In h) (G : h.Ns mainGlobals mg) (c : tupB x zs K = true) : TupC K mg x zs := by
  obtain ⟨c1, c2⟩ := He.ba c
  refine ⟨He.glo_ok X G c1, fun H => ?_⟩
  cases q : K.lookup (He.ga K x) with
  | none => rw [q] at c2; cases c2
  | some o =>
    rw [q] at c2
    obtain ⟨oc, od, dt, osl⟩ := o
    cases oc with
    | type c =>
      cases dt with
      | seq its n =>
        obtain ⟨c3, c4⟩ := He.ba c2
        obtain ⟨c5, c6⟩ := He.ba c4
        have e : c = "tuple" := of_decide_eq_true c3
        have hz : its.size ≤ 1000 := of_decide_eq_true c5
        subst e
        exact .inr ⟨_, its, n, q, rfl, rfl, Nat.le_trans hz (by decide), strsV_ok c6⟩
      | _ => cases c2
    | _ => cases c2
section
variable {X : Cx} {C : Cn} {Q : VK} {μ : Mu} {F H : Hp} {st : Sto} {e : Expr} {ma mb : Ev} {pos p : Pos} {x : Str} {zs : List Str}
theorem cmpC_core {β : Type} {G : β → Sto → Mu → Hp → Hp → Prop} (gl : Lat G) {r : R2} {g : PyData → PyData → Option Bool} {y : V} {db : PyData} (ok : ∀ (a : PyData) (k : Bool) (v : V) (μ : Mu) (F H : Hp) (st : Sto) (Q : VK), SR C.K μ F H st → Vw C.K F H v a → g a db = some k → Q (.bl k) H → r v y H Q)
    {σ : St} {ρ : En} {R : VK} {kk : Bool → Sto → Res β} (h3 : Post (C.at σ) G μ F H ((mCmp g ma (mK db) ρ st).bind kk)) (fin : ∀ k s μ1 F1 H1, Ext μ F H μ1 F1 H1 → SR C.K μ1 F1 H1 s → Post (C.at σ) G μ1 F1 H1 (kk k s) → R (.bl k) H1) :
    PostV (C.at σ) (fun x H1 => r x y H1 R) μ F H (mV ma ρ st) := by
  have h3' : Post (C.at σ) G μ F H ((mV ma ρ st).bind fun x s1 => (okB (cmp2 g s1 x (.d db)) s1).bind kk) := by
    revert h3
    unfold mCmp
    cases mV ma ρ st <;> exact id
  refine Post.bindV gl h3' fun x s v μ1 F1 H1 x1 r1 k1 h5 => ?_
  cases q0 : cmp2 g s x (.d db) with
  | none => rw [q0] at h5; exact False.elim h5
  | some k =>
    rw [q0] at h5
    unfold cmp2 at q0
    cases q1 : view s x with
    | none => rw [q1] at q0; cases q0
    | some da =>
      rw [q1] at q0
      exact ok da k v μ1 F1 H1 s R r1 (view_ok r1 k1 q1) q0 (fin k s μ1 F1 H1 x1 r1 h5)
theorem flat_strs {v : V} {d : PyData} {K : Kw} (h : Dq K F v d) (f : flatD d = true) : ∀ zs : List Str, (zs.map V.str).all flatV = true ∧ inV v (zs.map V.str) = (zs.map PyData.str).any (fun y => eqF y d) := fun zs => by
  have : DqAll K F (zs.map V.str) (zs.map PyData.str) := by
    induction zs with
    | nil => exact .nil
    | cons z zs ih => exact .cons (.str z) ih
  exact flat_all h f this (by rw [List.all_map]; exact List.all_eq_true.mpr fun _ _ => rfl)
theorem gInC_ok {neg : Bool} (hK : C.K.K = X.K) (T : TupC X.K X.mg x zs) (a : PyData) (k : Bool) (v : V) (μ : Mu) (F H : Hp) (st : Sto) (Q : VK) (s : SR C.K μ F H st) (va : Vw C.K F H v a) (e : gIn neg a (.tuple (zs.map PyData.str)) = some k) (q : Q (.bl k) H) :
    rIn X.K neg v (.ref (He.ga X.K x)) H Q := by
  unfold gIn at e
  simp only [itemsD] at e
  split at e
  · rename_i hh
    rw [Bool.and_eq_true] at hh
    cases e
    obtain ⟨h1, h2⟩ := flat_strs (va.flat hh.1) hh.1 zs
    exact ⟨_, _, rfl, .inr (T.t H), (flat_dq (va.flat hh.1) hh.1).1, h1, by rw [h2]; exact q⟩
  · cases e
theorem v_inC {neg : Bool} {op : CmpOp} (ho : OpR X (compareOp op) (rIn X.K neg)) (hK : C.K.K = X.K) (T : TupC X.K X.mg x zs) (hg : Gl X x) (ha : PE X e (tM C ma)) (hm : behindInMarks op (.Name x p) = false) (hd : (x == ("__debug__" : Str)) = false := by decide) :
    PE X (.Compare e [op] [.Name x p] pos) (tM C (bV (mCmp (gIn neg) ma (mK (.tuple (zs.map PyData.str)))))) :=
  (pe_cmpR ho (pv_frz ha) (pe_glob (v := .ref (He.ga X.K x)) hg T.g rfl hd) hm).imp fun σ H Q ⟨ρ, st, μ, F, h1, h2, h3⟩ => ⟨ρ, st, μ, F, h1, h2, cmpC_core gE_lat (gInC_ok hK T) h3 fun k s μ1 F1 H1 x1 r1 h => fin_d r1 h (.bl k)⟩
theorem t_inC {neg : Bool} {op : CmpOp} (ho : OpR X (compareOp op) (rIn X.K neg)) (hK : C.K.K = X.K) (T : TupC X.K X.mg x zs) (hg : Gl X x) (ha : PE X e (tM C ma)) (hm : behindInMarks op (.Name x p) = false) (hd : (x == ("__debug__" : Str)) = false := by decide) :
    PT X (.Compare e [op] [.Name x p] pos) (tT C (mCmp (gIn neg) ma (mK (.tuple (zs.map PyData.str))))) := by
  have h := pt_cmpR (pos := pos) ho (pv_frz ha) (pe_glob (v := .ref (He.ga X.K x)) hg T.g rfl hd) hm
  refine ⟨fun pins s σ H Q I ⟨ρ, st, μ, F, h1, h2, h3⟩ => h.run pins s σ H Q I ⟨ρ, st, μ, F, h1, h2, ?_⟩⟩
  have h3' : PostB (C.at σ) Q μ F H ((mCmp (gIn neg) ma (mK (.tuple (zs.map PyData.str))) ρ st).bind fun k s => .ok k s) := by
    revert h3
    cases mCmp (gIn neg) ma (mK (.tuple (zs.map PyData.str))) ρ st <;> exact id
  exact cmpC_core (R := fun v H1 => ∃ k, v = .bl k ∧ Q k H1) gB_lat (gInC_ok hK T) h3' fun k s μ1 F1 H1 x1 r1 h => ⟨k, rfl, h μ1 F1 H1 Ext.refl r1⟩
/-! ### name += e, of ints -/
def sAugI (i : Nat) (ma : Ev) : Sv := fun ρ st => match ρ[i]? with
  | some (some (.d (.int a))) => (mV ma ρ st).toS fun y s => match y with
    | .d (.int b) => .nx (ρ.set i (some (.d (.int (a + b))))) s
    | _ => .no
  | _ => .no
theorem x_augI {i : Nat} {y : Str} {pos' : Pos} (hN : X.N.Nodup) (hi : X.N[i]? = some y) (hx : Loc X.env.scope y) (ha : PE X e (tM C ma)) (hf : X.fn y = true ∨ X.env.scope.names.lookup y = some .local) :
    PS X (.AugAssign (.Name y pos') .Add e pos) (tS C (sAugI i ma)) := (ps_aug hN hi hx (pv_frz ha) ip_add hf).imp fun D σ H ⟨ρ, st, μ, F, h1, h2, h3⟩ => by
  have h3 : PostS (C.at σ) D μ F H (sAugI i ma ρ st) := h3
  unfold sAugI at h3
  cases q : ρ[i]? with
  | none => rw [q] at h3; exact False.elim h3
  | some o =>
    cases o with
    | none => rw [q] at h3; exact False.elim h3
    | some x =>
      cases x with
      | d d =>
        cases d with
        | int a =>
          rw [q] at h3
          obtain ⟨v, k1, k2⟩ := h1.2 i _ q
          refine ⟨v, k1, ρ, st, μ, F, h1, h2, PostS.bindV h3 fun y s u μ1 F1 H1 x1 r1 k3 h4 => ?_⟩
          cases y with
          | d d =>
            cases d with
            | int b =>
              have e1 : v = .int a := by cases (show Dq C.K F v (.int a) from k2); rfl
              have e2 : u = .int b := by cases (show Dq C.K F1 u (.int b) from k3); rfl
              subst e1 e2
              exact ⟨a, b, rfl, rfl, h4 _ _ _ _ Ext.refl r1 (eok_set (h1.ext x1) (show Vok C.K F1 μ1 (.d (.int (a + b))) (.int (a + b)) from Dq.int _))⟩
            | _ => exact False.elim h4
          | _ => exact False.elim h4
        | _ => rw [q] at h3; exact False.elim h3
      | _ => rw [q] at h3; exact False.elim h3
variable {E : Er → Sto → Prop} {ρ : En} {N B K : En → Sto → Prop} {R : Rv → Sto → Prop}
@[simp] theorem W_sAugI (i : Nat) : WSe E (sAugI i ma ρ st) N B K R = (match ρ[i]? with
    | some (some (.d (.int a))) => WVe E (ma ρ st) fun y s => (match frz y with
      | .d (.int b) => N (ρ.set i (some (.d (.int (a + b))))) s
      | _ => False)
    | _ => False) := by
  unfold sAugI
  split
  · rw [WS_toS, W_mV]
    congr 1; funext y s
    split <;> simp_all
  · rename_i h
    rfl
end
/-! ### a table of the module: texts to ints; .get of it -/
def isI (v : Value) (z : Int) : Bool := match v with
  | .int y _ => decide (y = z)
  | _ => false
theorem isI_ok {v : Value} {z : Int} (h : isI v z = true) : RelV (.int z) v := by
  unfold isI at h
  split at h
  · rename_i y t
    have e : y = z := of_decide_eq_true h
    subst e
    exact ⟨t, rfl⟩
  · cases h
def entsI : List DictEntry → List (Str × Int) → Bool
  | [], [] => true
  | e :: r, z :: zs => (isS e.key z.1 && isI e.val z.2) && entsI r zs
  | _, _ => false
def tabB (x : Str) (kvs : List (Str × Int)) : Fb := fun K => (He.Fa.glo x).ok K && match K.lookup (He.ga K x) with
  | some ⟨_, _, .dict es _, _⟩ => entsI es.toList kvs
  | _ => false
/-- the table -/
structure TabC (K : PySem.W.Frag) (w : World) (mg : Str → Option Value) (x : Str) (kvs : List (Str × Int)) : Prop where
  g : mg x = some (.ref (He.ga K x))
  t : ∃ es n, KDict K w (He.ga K x) es n ∧ ∀ z, RelO ((kvs.lookup z).map V.int) (findBy Value.isStrOf es z)
theorem entsI_find : ∀ {l : List DictEntry} {kvs : List (Str × Int)}, entsI l kvs = true → ∀ z, RelO ((kvs.lookup z).map V.int) ((l.find? fun e => Value.isStrOf z e.key).map (·.val))
  | [], [], _, _ => trivial
  | e :: r, p :: zs, h, z => by
    obtain ⟨p1, p2⟩ := p
    unfold entsI at h
    simp only [Bool.and_eq_true] at h
    obtain ⟨⟨h1, h2⟩, h3⟩ := h
    obtain ⟨t, ek⟩ := isS_ok h1
    have ez : Value.isStrOf z e.key = decide (z = p1) := by
      rw [ek]
      by_cases hz : z = p1
      · subst hz; simp [Value.isStrOf]
      · simp [Value.isStrOf, hz]
        try exact fun q => hz q.symm
    rw [List.find?_cons, ez, List.lookup_cons]
    by_cases hz : z = p1
    · subst hz
      simp
      exact isI_ok h2
    · have e1 : (z == p1) = false := by simpa using hz
      rw [decide_eq_false hz, e1]
      exact entsI_find h3 z
  | [], _ :: _, h, _ => by cases h
  | _ :: _, [], h, _ => by cases h
theorem tabB_ok {x : Str} {kvs : List (Str × Int)} {K : PySem.W.Frag} {w : World} {h : Heap} {mg : Str → Option Value} (X : K.In h) (G : h.Ns mainGlobals mg) (c : tabB x kvs K = true) (D : ∃ es n, KDict K w (He.ga K x) es n) : TabC K w mg x kvs := by
  obtain ⟨c1, c2⟩ := He.ba c
  refine ⟨He.glo_ok X G c1, ?_⟩
  obtain ⟨es, n, D⟩ := D
  refine ⟨es, n, D, fun z => ?_⟩
  rw [D.at_] at c2
  have := entsI_find c2 z
  obtain ⟨l⟩ := es
  unfold findBy
  simpa using this
def mTabG (kvs : List (Str × Int)) (ma : Ev) : Ev := fun ρ st => (mV ma ρ st).bind fun y s => match y with
  | .d (.str z) => .ok (.d (match kvs.lookup z with
    | some i => .int i
    | none => .none)) s
  | _ => .no
section
variable {X : Cx} {C : Cn} {e : Expr} {ma : Ev} {apos cpos p : Pos} {x : Str} {kvs : List (Str × Int)}
theorem s_tabG (T : TabC X.K X.w X.mg x kvs) (hg : Gl X x) (he : PE X e (tM C ma)) (m : M1 X (.Name x p) "get" apos e cpos) (hd : (x == ("__debug__" : Str)) = false := by decide) :
    PE X (.Call (.Attribute (.Name x p) "get" apos) [e] [] cpos) (tM C (mTabG kvs ma)) := by
  refine ⟨fun pins s σ H Q I ⟨ρ, st, μ, F, h1, h2, h3⟩ => ?_⟩
  obtain ⟨es, n, D, hfind⟩ := T.t
  refine wpAny_Call_method m.base m.few m.line PySem.F.plainAttrs_dict PySem.F.slot_dict_get PySem.F.type_dict_get (thn ((pe_glob (pos := p) (v := .ref (He.ga X.K x)) hg T.g rfl hd).run pins s σ H (fun v H1 => v = .ref (He.ga X.K x) ∧ H1 = H) I ⟨rfl, rfl⟩) fun u s1 ⟨y, H1, I1, rx, ex, eH⟩ => ?_)
  subst ex eH
  obtain rfl : u = Value.ref (He.ga X.K x) := rx
  have mo : s1.heap.MapOf (strKind X.prog X.w) (He.ga X.K x) (fun k => findBy Value.isStrOf es k) := PySem.W.mapOf_K (prog := X.prog) I1.kIn D.at_ D.lit
  refine ⟨mo.typeIs, mo.noDict, ?_⟩
  rw [m.trees]
  refine Calls.callWith_builtin rfl (Calls.evalArgs_plain (Calls.spliced_cons (thn ((pv_frz he).run pins s1 σ H1 (fun v H2 => ∃ z, v = .str z ∧ Q ((((kvs.lookup z).map V.int)).getD .non) H2) I1 ⟨ρ, st, μ, F, h1, h2, Post.bindV gE_lat h3 fun y sy v μ1 F1 H2 x1 r1 k1 h5 => ?_⟩) fun iv s2 ⟨y, H2, I2, ry, z, ez, q⟩ => Calls.spliced_nil ?_)))
  · cases y with
    | d d =>
      cases d with
      | str z =>
        have e1 : v = .str z := by cases (show Dq C.K F1 v (.str z) from k1); rfl
        refine ⟨z, e1, ?_⟩
        have h5 : PostE (C.at σ) Q μ1 F1 H2 (.ok (.d (match kvs.lookup z with
          | some i => .int i
          | none => .none)) sy) := h5
        cases q : kvs.lookup z with
        | none => rw [q] at h5; exact fin_d r1 h5 .non
        | some i => rw [q] at h5; exact fin_d r1 h5 (.int i)
      | _ => exact False.elim h5
    | _ => exact False.elim h5
  · subst ez
    obtain ⟨t, rfl⟩ := ry
    have mo2 : s2.heap.MapOf (strKind X.prog X.w) (He.ga X.K x) (fun k => findBy Value.isStrOf es k) := PySem.W.mapOf_K (prog := X.prog) I2.kIn D.at_ D.lit
    refine call_meetsIn PySem.F.slot_dict_get mo2.typeIs PySem.F.entry_dict_get (PySem.F.args_dict_get_2 _ _) (meets_dict_get (strKind X.prog X.w) (He.ga X.K x) (PySem.strKind_is X.prog X.w z t) D.low) ⟨_, mo2, ⟨_, H2, I2.tok _, ?_, q⟩⟩
    exact RelO.getD (hfind z) rfl
variable {E : Er → Sto → Prop} {ρ : En} {st : Sto} {PE' : Rv → Sto → Prop}
@[simp] theorem W_mTabG : WVe E (mTabG kvs ma ρ st) PE' = WVe E (ma ρ st) fun r s => (match frz r with
    | .d (.str z) => PE' (.d (match kvs.lookup z with
      | some i => .int i
      | none => .none)) s
    | _ => False) := by
  unfold mTabG; rw [WV_bind, W_mV]
  congr 1; funext y s
  split <;> simp_all
end
/-! ### the head's own look, with tables -/
abbrev AlX : Type := He.AlD × List (Option (List (Option (Str × Int))))
def obsXT (fb : List Fb) (fn : List He.DefD) (ts : List He.Tab) (K : PySem.W.Frag) : AlX := (obsX fb fn K, ts.map fun t => He.dicW K (t.1 K))
def valXT (fn : List He.DefD) (ts : List He.Tab) (w : World) : AlX := (He.valD fn, ts.map fun t => some (He.keysIn w.params t.2))
def SaysXT (fb : List Fb) (fn : List He.DefD) (ts : List He.Tab) (w : World) (K : PySem.W.Frag) : Prop := obsXT fb fn ts K = valXT fn ts w
def sysB : Fb := fun K => match K.lookup sysModules with
  | some ⟨_, _, .dict _ _, _⟩ => true
  | _ => false
theorem sysB_ok {K : PySem.W.Frag} (h : sysB K = true) : SysK K := by
  unfold sysB at h
  cases q : K.lookup sysModules with
  | none => rw [q] at h; cases h
  | some o =>
    rw [q] at h
    obtain ⟨oc, od, dt, osl⟩ := o
    cases dt with
    | dict es n => exact ⟨_, es, n, q, rfl⟩
    | _ => cases h
section
variable {fb : List Fb} {fn : List He.DefD} {ts : List He.Tab} {w : World} {K : PySem.W.Frag}
theorem SaysXT.x (c : SaysXT fb fn ts w K) : SaysX fb fn K := congrArg (fun z : AlX => z.1) c
theorem SaysXT.tab (c : SaysXT fb fn ts w K) (i : Nat) {t : He.Tab} (h : ts[i]? = some t := by rfl) : ∃ es n, KDict K w (t.1 K) es n := by
  have e : ts.map (fun t => He.dicW K (t.1 K)) = ts.map fun t => some (He.keysIn w.params t.2) := congrArg (fun z : AlX => z.2) c
  have e2 : (ts.map fun t => He.dicW K (t.1 K))[i]? = (ts.map fun t => some (He.keysIn w.params t.2))[i]? := by rw [e]
  rw [List.getElem?_map, List.getElem?_map, h] at e2
  exact He.dicW_ok (Option.some.inj e2)
end
end Cp
/-! Dd: dicts, their keys ints and texts or tuples: in, d[k], d[k] = v. -/
namespace Cp
open PySem L2
def gnD (d : PyData) : Bool := match d with
  | .tuple xs => (match keysN xs with
    | some ks => decide ((NestedKey.tup ks).depth ≤ 8)
    | none => false)
  | _ => false
def gnK (kvs : List (PyData × PyData)) : Bool := kvs.all fun p => gnD p.1
def okK (kvs : List (PyData × PyData)) (k : PyData) : Bool := (flK kvs && (keyD k).isSome) || (gnK kvs && gnD k)
def keyE (a b : PyData) : Bool := decide (keyN a = keyN b)
def lookD : List (PyData × PyData) → PyData → Option PyData
  | [], _ => none
  | (j, v) :: r, k => if keyE j k then some v else lookD r k
def putD (kvs : List (PyData × PyData)) (k v : PyData) : List (PyData × PyData) :=
  if (kvs.any fun p => keyE p.1 k) = true then kvs.map (fun p => if keyE p.1 k = true then (p.1, v) else p) else kvs ++ [(k, v)]
theorem gnD_ok {d : PyData} (h : gnD d = true) : ∃ xs ks, d = .tuple xs ∧ keyN d = some (.tup ks) ∧ (NestedKey.tup ks).depth ≤ 8 := by
  cases d with
  | tuple xs =>
    unfold gnD at h
    cases q : keysN xs with
    | none => simp only [q] at h; cases h
    | some ks =>
      simp only [q] at h
      exact ⟨xs, ks, rfl, by unfold keyN; rw [q], of_decide_eq_true h⟩
  | _ => cases h
theorem keyE_kD {j k : Key} : keyE (kD j) (kD k) = decide (j = k) := by
  unfold keyE
  cases j <;> cases k <;> simp [kD, keyN]
section
variable {K : Kw} {F H : Hp}
/-- the value at a key -/
theorem lookD_flat {k : Key} : ∀ {ws : List (Key × V)} {kvs : List (PyData × PyData)}, DqKv K F ws kvs → OptOk K F (valV ws k) (lookD kvs (kD k))
  | _, _, .nil => trivial
  | (j, v) :: ws, _, .cons (d := d) h t => by
    unfold lookD valV
    rw [List.find?_cons, keyE_kD]
    cases q : decide (j = k) with
    | true => exact h
    | false => exact lookD_flat t
theorem OptOk.same_some {a : Option V} {b : Option PyData} (h : OptOk K F a b) : a.isSome = b.isSome := by
  cases a <;> cases b <;> first | rfl | exact False.elim h
theorem any_flat {k : Key} : ∀ {ws : List (Key × V)} {kvs : List (PyData × PyData)}, DqKv K F ws kvs → (kvs.any fun p => keyE p.1 (kD k)) = ws.any fun kv => decide (kv.1 = k)
  | _, _, .nil => rfl
  | (j, v) :: ws, _, .cons (d := d) h t => by rw [List.any_cons, List.any_cons, keyE_kD, any_flat t]
theorem map_flat {k : Key} {x : V} {d : PyData} (hx : Dq K F x d) : ∀ {ws : List (Key × V)} {kvs : List (PyData × PyData)}, DqKv K F ws kvs → DqKv K F (ws.map fun kv => if kv.1 = k then (kv.1, x) else kv) (kvs.map fun p => if keyE p.1 (kD k) = true then (p.1, d) else p)
  | _, _, .nil => .nil
  | (j, v) :: ws, _, .cons (d := d') h t => by
    rw [List.map_cons, List.map_cons, keyE_kD]
    by_cases q : j = k
    · rw [if_pos q, if_pos (decide_eq_true q)]; exact .cons hx (map_flat hx t)
    · rw [if_neg q, if_neg (by simpa using q)]; exact .cons h (map_flat hx t)
theorem app_flat : ∀ {ws us : List (Key × V)} {kvs lvs : List (PyData × PyData)}, DqKv K F ws kvs → DqKv K F us lvs → DqKv K F (ws ++ us) (kvs ++ lvs)
  | _, _, _, _, .nil, h => h
  | _, _, _, _, .cons h t, g => .cons h (app_flat t g)
theorem put_flat {k : Key} {x : V} {d : PyData} {ws : List (Key × V)} {kvs : List (PyData × PyData)} (h : DqKv K F ws kvs) (hx : Dq K F x d) : DqKv K F (putK ws k x) (putD kvs (kD k) d) := by
  unfold putK putD
  rw [any_flat h]
  by_cases q : (ws.any fun kv => decide (kv.1 = k)) = true
  · rw [if_pos q, if_pos q]; exact map_flat hx h
  · rw [if_neg q, if_neg q]; exact app_flat h (.cons hx .nil)
/-! ### keys that are tuples -/
abbrev Ge := NestedKey × Addr × V
def lookG (es : List Ge) (k : NestedKey) : Option V := (es.find? fun e => decide (e.1 = k)).map (·.2.2)
def putG (es : List Ge) (k : NestedKey) (b : Addr) (v : V) : List Ge :=
  if (es.any fun e => decide (e.1 = k)) = true then es.map (fun e => if e.1 = k then (e.1, e.2.1, v) else e) else es ++ [(k, b, v)]
theorem keyE_at {a b : PyData} {j k : NestedKey} (h1 : keyN a = some j) (h2 : keyN b = some k) : keyE a b = decide (j = k) := by
  unfold keyE
  rw [h1, h2]
  by_cases q : j = k
  · rw [decide_eq_true q, decide_eq_true (by rw [q])]
  · rw [decide_eq_false q, decide_eq_false (fun z => q (Option.some.inj z))]
theorem lookG_ok {k : NestedKey} {kd : PyData} (hk : keyN kd = some k) : ∀ {es : List Ge} {kvs : List (PyData × PyData)}, DqG K F es kvs → OptOk K F (lookG es k) (lookD kvs kd)
  | _, _, .nil => trivial
  | (j, b, v) :: es, _, .cons h1 h2 h3 h4 t => by
    unfold lookD lookG
    rw [List.find?_cons, keyE_at h2 hk]
    cases q : decide (j = k) with
    | true => exact h4
    | false => exact lookG_ok hk t
theorem anyG_ok {k : NestedKey} {kd : PyData} (hk : keyN kd = some k) : ∀ {es : List Ge} {kvs : List (PyData × PyData)}, DqG K F es kvs → (kvs.any fun p => keyE p.1 kd) = es.any fun e => decide (e.1 = k)
  | _, _, .nil => rfl
  | (j, b, v) :: es, _, .cons h1 h2 h3 h4 t => by rw [List.any_cons, List.any_cons, keyE_at h2 hk, anyG_ok hk t]
theorem mapG_ok {k : NestedKey} {kd : PyData} (hk : keyN kd = some k) {x : V} {d : PyData} (hx : Dq K F x d) : ∀ {es : List Ge} {kvs : List (PyData × PyData)}, DqG K F es kvs → DqG K F (es.map fun e => if e.1 = k then (e.1, e.2.1, x) else e) (kvs.map fun p => if keyE p.1 kd = true then (p.1, d) else p)
  | _, _, .nil => .nil
  | (j, b, v) :: es, _, .cons h1 h2 h3 h4 t => by
    rw [List.map_cons, List.map_cons, keyE_at h2 hk]
    by_cases q : j = k
    · rw [if_pos q, if_pos (decide_eq_true q)]; exact .cons h1 h2 h3 hx (mapG_ok hk hx t)
    · rw [if_neg q, if_neg (by simpa using q)]; exact .cons h1 h2 h3 h4 (mapG_ok hk hx t)
theorem appG_ok : ∀ {es us : List Ge} {kvs lvs : List (PyData × PyData)}, DqG K F es kvs → DqG K F us lvs → DqG K F (es ++ us) (kvs ++ lvs)
  | _, _, _, _, .nil, h => h
  | _, _, _, _, .cons h1 h2 h3 h4 t, g => .cons h1 h2 h3 h4 (appG_ok t g)
theorem putG_ok {k : NestedKey} {kd : PyData} (hk : keyN kd = some k) (hd : k.depth ≤ 8) {b : Addr} (hb : Dq K F (.ref b) kd) {x : V} {d : PyData} (hx : Dq K F x d) {es : List Ge} {kvs : List (PyData × PyData)} (h : DqG K F es kvs) : DqG K F (putG es k b x) (putD kvs kd d) := by
  unfold putG putD
  rw [anyG_ok hk h]
  by_cases q : (es.any fun e => decide (e.1 = k)) = true
  · rw [if_pos q, if_pos q]; exact mapG_ok hk hx h
  · rw [if_neg q, if_neg q]; exact appG_ok h (.cons hb hk hd hx .nil)
theorem putG_ne {es : List Ge} {k : NestedKey} {b : Addr} {v : V} : putG es k b v ≠ [] := by
  unfold putG
  split
  · rename_i q
    cases es with
    | nil => cases q
    | cons e es => simp
  · simp
theorem putG_nodup {es : List Ge} {k : NestedKey} {b : Addr} {v : V} (h : (es.map (·.1)).Nodup) : ((putG es k b v).map (·.1)).Nodup := by
  unfold putG
  split
  · have e : (es.map fun e => if e.1 = k then (e.1, e.2.1, v) else e).map (·.1) = es.map (·.1) := by
      rw [List.map_map]
      refine List.map_congr_left fun e _ => ?_
      show (if e.1 = k then (e.1, e.2.1, v) else e).1 = e.1
      split <;> rfl
    rw [e]; exact h
  · rename_i q
    rw [List.map_append, List.nodup_append]
    refine ⟨h, by simp, fun a ha c hc e => ?_⟩
    rw [List.map_cons, List.map_nil, List.mem_singleton] at hc
    subst e hc
    obtain ⟨x, hx, e⟩ := List.mem_map.mp ha
    exact q (List.any_eq_true.mpr ⟨x, hx, decide_eq_true e⟩)
theorem putG_len {es : List Ge} {k : NestedKey} {b : Addr} {v : V} : (putG es k b v).length ≤ es.length + 1 := by
  unfold putG
  split <;> simp
end
/-! ### in the heap -/
section
variable {P : Program} {w : World} {K : Kw} {F H : Hp} {h : Heap}
mutual
theorem Dq.nest (ok : HOk P w H h) : ∀ {v : V} {d : PyData} {u : Value} {k : NestedKey}, Dq K H v d → RelV v u → keyN d = some k → NestedIs h k u
  | _, _, _, _, .non, r, e => by cases r; cases e; exact .none
  | _, _, _, _, .bl b, _, e => by cases e
  | _, _, _, _, .int i, r, e => by obtain ⟨t, rfl⟩ := r; cases e; exact .int i t
  | _, _, _, _, .str x, r, e => by obtain ⟨t, rfl⟩ := r; cases e; exact .text x t
  | _, _, _, _, .lst _ _, _, e => by cases e
  | _, .tuple ds, _, k, .tup (a := a) (xs := xs) g q, r, e => by
    cases r
    unfold keyN at e
    cases q1 : keysN ds with
    | none => rw [q1] at e; cases e
    | some ks =>
      rw [q1] at e
      cases e
      have g' : ObjOk P w H h a (.tup xs) := by
        rcases g with g | ⟨o, g⟩
        · exact ok a _ g
        · exact (ok a _ g).2
      obtain ⟨_, its, rv, o, ho, hc, n, hd⟩ := g'
      exact .tup ho hc hd (DqAll.nest ok q rv q1)
  | _, _, _, _, .dic _ _, _, e => by cases e
  | _, _, _, _, .dig _ _ _ _, _, e => by cases e
  | _, _, _, _, .ins _ _ _, _, e => by cases e
theorem DqAll.nest (ok : HOk P w H h) : ∀ {vs : List V} {ds : List PyData} {us : List Value} {ks : List NestedKey}, DqAll K H vs ds → Vals vs us → keysN ds = some ks → NestedAll h ks us
  | _, _, _, _, .nil, r, e => by cases r; cases e; exact .nil
  | _, d :: ds, _, ks, .cons g q, r, e => by
    cases r with
    | cons r1 r2 =>
      unfold keysN at e
      cases q1 : keyN d with
      | none => rw [q1] at e; cases e
      | some k =>
        cases q2 : keysN ds with
        | none => rw [q1, q2] at e; cases e
        | some ks' =>
          rw [q1, q2] at e
          cases e
          exact .cons (Dq.nest ok g r1 q1) (DqAll.nest ok q r2 q2)
end
theorem DqG.nests (ok : HOk P w H h) : ∀ {es : List Ge} {kvs : List (PyData × PyData)} {xs : List (NestedKey × Addr × Value)}, DqG K H es kvs → Paired DgPr es xs → ∀ x ∈ xs, (nestedKind P w).is h x.1 x.2.1
  | _, _, _, .nil, r, _, hx => by cases r; cases hx
  | _, _, _, .cons h1 h2 h3 h4 t, r, x, hx => by
    cases r with
    | cons r1 r2 =>
      rcases List.mem_cons.mp hx with rfl | hx
      · obtain ⟨e1, e2, _⟩ := r1
        show NestedIs h x.1 (.ref x.2.1) ∧ x.1.depth ≤ 8
        rw [← e1, ← e2]
        exact ⟨Dq.nest ok h1 rfl h2, h3⟩
      · exact DqG.nests ok t r2 x hx
/-- a dict whose keys are tuples, or none -/
theorem dc_gen (ok : HOk P w H h) (sub : Same F H) {a : Addr} {o : HO} {kvs : List (PyData × PyData)} (hw : K.w = w) (ha : H a = some o) (hc : DcOk K F a kvs o) (g : gnK kvs = true) :
    ∃ es xs, DqG K F es kvs ∧ (es.map (·.1)).Nodup ∧ Paired DgPr es xs ∧ h.DictOfH (nestedKind P w) a xs ∧ es.length ≤ sizeLine ∧ (a == sysModules) = false ∧ Mut (H a) := by
  rcases hc with ⟨ws, rfl, h2⟩ | ⟨es, rfl, h2, h3, h4⟩
  · cases h2 with
    | nil =>
      obtain ⟨_, low, vs, kv, hd⟩ := ok a _ ha
      cases kv
      obtain ⟨o, ar, ep, e1, e2, e3, _, e4, _⟩ := hd
      have e6 : ar.toList = [] := by
        generalize ar.toList = l at e4
        cases e4; rfl
      exact ⟨[], [], .nil, List.nodup_nil, .nil, ⟨o, ar, ep, e1, e2, e3, by rw [e6]; rfl, fun _ z => (nomatch z), List.nodup_nil⟩, Nat.zero_le _, low, by rw [ha]; trivial⟩
    | cons _ _ =>
      unfold gnK at g
      rw [List.all_cons, Bool.and_eq_true] at g
      rename_i k _ _ _ _ _ _
      cases k <;> exact absurd g.1 Bool.false_ne_true
  · obtain ⟨⟨hl, low, xs, o, ar, ep, p, e1, e2, e3, e4⟩, _⟩ := ok a _ ha
    refine ⟨es, xs, h2, h3, p, ⟨o, ar, ep, e1, e2, e3, ?_, DqG.nests ok (h2.same sub) p, ?_⟩, hl, low, by rw [ha]; trivial⟩
    · rw [e4, hw]; rfl
    · have : ∀ {es : List Ge} {xs : List (NestedKey × Addr × Value)}, Paired DgPr es xs → xs.map (·.1) = es.map (·.1) := by
        intro es xs p
        induction p with
        | nil => rfl
        | cons a _ ih => rw [List.map_cons, List.map_cons, ih, a.1]
      rw [this p]; exact h3
end
theorem lookX {es : List Ge} {xs : List (NestedKey × Addr × Value)} (p : Paired DgPr es xs) (k : NestedKey) : RelO (lookG es k) ((atKey xs k).map (·.2)) := by
  induction p with
  | nil => trivial
  | @cons e x es xs h t ih =>
    obtain ⟨e1, _, e3⟩ := h
    unfold lookG atKey at ih ⊢
    rw [List.find?_cons, List.find?_cons, e1]
    cases q : decide (x.1 = k) with
    | true => exact e3
    | false => exact ih
theorem anyX {es : List Ge} {xs : List (NestedKey × Addr × Value)} (p : Paired DgPr es xs) (k : NestedKey) : (es.any fun e => decide (e.1 = k)) = (atKey xs k).isSome := by
  induction p with
  | nil => rfl
  | @cons e x es xs h t ih =>
    unfold atKey at ih ⊢
    rw [List.any_cons, List.find?_cons, h.1]
    cases q : decide (x.1 = k) with
    | true => rfl
    | false => simpa using ih
theorem putX {es : List Ge} {xs : List (NestedKey × Addr × Value)} (p : Paired DgPr es xs) (k : NestedKey) (b : Addr) {v : V} {u : Value} (r : RelV v u) : Paired DgPr (putG es k b v) (storedH xs k b u) := by
  unfold putG storedH
  rw [anyX p k]
  by_cases q : (atKey xs k).isSome = true
  · rw [if_pos q, if_pos q]
    clear q
    induction p with
    | nil => exact .nil
    | @cons e x es xs h t ih =>
      rw [List.map_cons, List.map_cons]
      refine .cons ?_ ih
      unfold putAt
      rw [h.1]
      by_cases z : x.1 = k
      · rw [if_pos z, if_pos z]; exact ⟨rfl, h.2.1, r⟩
      · rw [if_neg z, if_neg z]; exact h
  · rw [if_neg q, if_neg q]
    clear q
    induction p with
    | nil => exact .cons ⟨rfl, rfl, r⟩ .nil
    | @cons e x es xs h t ih => exact .cons h ih
section
variable {X : Cx}
/-- what a rule over a dict and a key asks -/
def DcAt (w : World) (H : Hp) (y x : V) (KK : Kw) (F : Hp) (a : Addr) (o : HO) (kvs : List (PyData × PyData)) (kd : PyData) : Prop :=
  KK.w = w ∧ y = .ref a ∧ H a = some o ∧ Same F H ∧ DcOk KK F a kvs o ∧ Dq KK F x kd ∧ okK kvs kd = true
theorem okK_or {kvs : List (PyData × PyData)} {kd : PyData} (h : okK kvs kd = true) : (flK kvs = true ∧ ∃ k, keyD kd = some k) ∨ (gnK kvs = true ∧ gnD kd = true) := by
  unfold okK at h
  rw [Bool.or_eq_true, Bool.and_eq_true, Bool.and_eq_true] at h
  exact h.imp (fun h => ⟨h.1, Option.isSome_iff_exists.mp h.2⟩) id
/-- k in d -/
def rDIn (w : World) (neg : Bool) : R2 := fun x y H Q => ∃ KK F a o kvs kd, DcAt w H y x KK F a o kvs kd ∧ Q (.bl (if neg then !(lookD kvs kd).isSome else (lookD kvs kd).isSome)) H
theorem op_dIn (hu : X.A.units + 64 < cLine) : OpR X (compareOp .In) (rDIn X.w false) := by
  intro pins s σ H x y v u Q I rx ry h
  obtain ⟨KK, F, a, o, kvs, kd, ⟨hw, rfl, ha, sub, hc, hk, ok⟩, q⟩ := h
  cases ry
  rcases okK_or ok with ⟨f, k, ek⟩ | ⟨g, gk⟩
  · obtain ⟨ws, rfl, hd⟩ := hc.flat f
    obtain ⟨rfl, rfl⟩ := keyD_ok hk ek
    refine d_in (o := valV ws k) (by omega) I (.k ha) rx fun s' I' => ⟨.bl (valV ws k).isSome, H, I', rfl, ?_⟩
    rw [(lookD_flat hd).same_some]; exact q
  · obtain ⟨ds, ks, rfl, ek, hdep⟩ := gnD_ok gk
    obtain ⟨es, xs, h1, h2, h3, h4, h5, h6, h7⟩ := dc_gen (P := X.prog) I.hok sub hw ha hc g
    obtain ⟨b, rfl⟩ : ∃ b, x = .ref b := by cases hk; exact ⟨_, rfl⟩
    cases rx
    refine wpAny_in_heap (knd := nestedKind X.prog X.w) (show X.A.units + 1 + 8 < cLine by omega) ⟨Dq.nest I.hok (hk.same sub) rfl ek, hdep⟩ h6 h4 ⟨.bl (atKey xs (.tup ks)).isSome, H, I.tok _, rfl, ?_⟩
    have e1 := (lookX h3 (.tup ks)).isSome_eq
    rw [Option.isSome_map] at e1
    have e2 := (lookG_ok ek h1).same_some
    rw [← e1, e2]; exact q
def gInD (neg : Bool) (a b : PyData) : Option Bool := match b with
  | .dict kvs => if okK kvs a = true then some (if neg then !(lookD kvs a).isSome else (lookD kvs a).isSome) else none
  | _ => none
theorem dict_at {K : Kw} {F H : Hp} {v : V} {kvs : List (PyData × PyData)} {kd : PyData} (h : Vw K F H v (.dict kvs)) (ok : okK kvs kd = true) : ∃ a o, v = .ref a ∧ H a = some o ∧ DcOk K F a kvs o := by
  rcases h with h | ⟨x, r, rfl, _⟩
  · exact h
  · rcases okK_or ok with ⟨f, _⟩ | ⟨f, _⟩ <;> cases f
theorem key_at {K : Kw} {F H : Hp} {v : V} {kd : PyData} {kvs : List (PyData × PyData)} (h : Vw K F H v kd) (ok : okK kvs kd = true) : Dq K F v kd := by
  cases kd with
  | list _ => rcases okK_or ok with ⟨_, _, f⟩ | ⟨_, f⟩ <;> cases f
  | dict _ => rcases okK_or ok with ⟨_, _, f⟩ | ⟨_, f⟩ <;> cases f
  | _ => exact h
variable {C : Cn} {neg : Bool}
theorem gInD_ok (hw : C.K.w = X.w) : CmpOk C (rDIn X.w neg) (gInD neg) := by
  intro a b k v u μ F H st Q s va vb e q
  cases b with
  | dict kvs =>
    unfold gInD at e
    simp only at e
    by_cases ok : okK kvs a = true
    · rw [if_pos ok] at e
      cases e
      obtain ⟨p, o, rfl, h1, h2⟩ := dict_at vb ok
      exact ⟨C.K, F, p, o, kvs, a, ⟨hw, rfl, h1, s.sub, h2, key_at va ok, ok⟩, q⟩
    · rw [if_neg ok] at e; cases e
  | _ => cases e
variable {a b : Expr} {ma mb : Ev} {pos : Pos} {k : Nat}
theorem t_dIn (B : Bd k X C) (ha : PE X a (tM C ma)) (hb : PE X b (tM C mb)) (hm : behindInMarks .In b = false) : PT X (.Compare a [.In] [b] pos) (tT C (mCmp (gInD false) ma mb)) := s_cmpT (op_dIn B.rm.hu) (gInD_ok B.hw) ha hb hm
/-! ### d[k] -/
def fDix (a b : PyData) : Option Rv := match a with
  | .dict kvs => if okK kvs b = true then (lookD kvs b).map .d else none
  | _ => none
variable {o i : Expr} {mo mi : Ev}
/-! ### d[k] = v -/
theorem ok_notGone {kvs : List (PyData × PyData)} {kd : PyData} (h : okK kvs kd = true) : isGone (.m kvs) = false := by
  cases q : isGone (.m kvs) with
  | false => rfl
  | true =>
    have e : ∃ v r, kvs = (.list [], v) :: r := by
      unfold isGone at q
      split at q
      · rename_i e; injection e with e; exact ⟨_, _, e⟩
      · rename_i e; injection e with e; exact ⟨_, _, e⟩
      · cases q
    obtain ⟨v, r, e⟩ := e
    subst e
    rcases okK_or h with ⟨f, _⟩ | ⟨f, _⟩ <;> cases f
/-- what is behind d[k] = v -/
theorem d_put {pins : List (Addr × Obj)} {σ : St} {s : Shared} {K : Kw} {F H : Hp} {a : Addr} {o : HO} {kvs : List (PyData × PyData)} {kd dv : PyData} {x v : V} {u r : Value} {Q : Unit → Shared → Prop} (hu : X.A.units + 64 < cLine) (I : Inv X pins σ H s) (hw : K.w = X.w) (ha : H a = some o) (sub : Same F H) (hc : DcOk K F a kvs o)
    (hk : Dq K F x kd) (ok : okK kvs kd = true) (hl : kvs.length < sizeLine) (hv : Dq K F v dv) (rx : RelV x u) (rv : RelV v r) (h : ∀ o' s', DcOk K F a (putD kvs kd dv) o' → Inv X pins σ (upd H a o') s' → Q () s') :
    wpAny (model X.prog X.w) X.A (setItem (.ref a) u r) Q X.xe s := by
  rcases okK_or ok with ⟨f, k, ek⟩ | ⟨g, gk⟩
  · obtain ⟨ws, rfl, hd⟩ := hc.flat f
    obtain ⟨rfl, rfl⟩ := keyD_ok hk ek
    have hlen : ws.length = kvs.length := by
      have : ∀ {ws : List (Key × V)} {kvs : List (PyData × PyData)}, DqKv K F ws kvs → ws.length = kvs.length := by
        intro ws kvs h
        induction ws generalizing kvs with
        | nil => cases h; rfl
        | cons w ws ih => cases h with | cons a b => rw [List.length_cons, List.length_cons, ih b]
      exact this hd
    exact d_setItem (by omega) I (DPut.k ha (by rw [hlen]; exact hl)) rx rv fun s' I' => h _ s' (.inl ⟨_, rfl, put_flat hd hv⟩) I'
  · obtain ⟨ds, ks, rfl, ek, hdep⟩ := gnD_ok gk
    obtain ⟨es, xs, h1, h2, h3, h4, h5, h6, h7⟩ := dc_gen (P := X.prog) I.hok sub hw ha hc g
    obtain ⟨b, rfl⟩ : ∃ b, x = .ref b := by cases hk; exact ⟨_, rfl⟩
    cases rx
    have hlen : es.length = kvs.length := by
      have : ∀ {es : List Ge} {kvs : List (PyData × PyData)}, DqG K F es kvs → es.length = kvs.length := by
        intro es kvs h
        induction es generalizing kvs with
        | nil => cases h; rfl
        | cons w ws ih => cases h with | cons a b c d e => rw [List.length_cons, List.length_cons, ih e]
      exact this h1
    refine wpAny_setItem_heap (knd := nestedKind X.prog X.w) (hsz := by rw [← Paired.length h3]; exact h5) (show X.A.units + 1 + 8 < cLine by omega) ⟨Dq.nest I.hok (hk.same sub) rfl ek, hdep⟩ h4 fun h' dd' hs => ?_
    have hp := putX h3 (.tup ks) b rv
    have hlp : (putG es (.tup ks) b v).length ≤ sizeLine := by have := @putG_len es (.tup ks) b v; omega
    obtain ⟨ob, ar, ep, e1, e2, e3, e4, _, _⟩ := dd'
    refine h (dgO K.w a (putG es (.tup ks) b v)) _ (.inr ⟨_, rfl, putG_ok ek hdep hk hv h1, putG_nodup h2, putG_ne⟩) (d_write I h7 hs ⟨ob, e1⟩ ?_)
    refine ⟨⟨hlp, h6, _, ob, ar, ep, hp, e1, e2, e3, by rw [e4, hw]; rfl⟩, ⟨ob, e1⟩, fun g1 g2 ⟨l1, l2, ys, oz, az, ez, z1, z2, z3, z4, z5⟩ st => ⟨l1, l2, ys, oz, az, ez, z1, st _ z2, z3, z4, z5⟩⟩
def sDput (mo mk mv : Ev) : Sv := fun ρ st => (mV mv ρ st).toS fun x s1 => (mV mo ρ s1).toS fun y s2 => (mV mk ρ s2).toS fun z s3 => match x, y, z with
  | .d x, .c i, .d k => (match s3[i]? with
    | some (.m kvs) => if okK kvs k = true ∧ kvs.length < sizeLine then .nx ρ (s3.set i (.m (putD kvs k x))) else .no
    | _ => .no)
  | _, _, _ => .no
variable {value : Expr} {mv : Ev} {pos' : Pos}
theorem x_dput (B : Bd k X C) (ho : PE X o (tM C mo)) (hi : PE X i (tM C mi)) (hv : PE X value (tM C mv)) (hs : swapsWith value (some (.Subscript o i pos')) pos.line X.env = pure false := by rfl) :
    PS X (.Assign [.Subscript o i pos'] value pos) (tS C (sDput mo mi mv)) := by
  refine ⟨fun pins s σ H D I ⟨ρ, st, μ, F, h1, h2, h3⟩ => ?_⟩
  refine wpAny_Assign_Subscript (thn ((pv_frz hv).run pins s σ H (fun v H1 => tV C (mV mo) σ H1 fun y H2 => tV C (mV mi) σ H2 fun x H3 => ∃ (KK : Kw) (F : Hp) (a : Addr) (ob : HO) (kvs : List (PyData × PyData)) (kd dv : PyData), KK.w = X.w ∧ y = .ref a ∧ H3 a = some ob ∧ Same F H3 ∧ DcOk KK F a kvs ob ∧ Dq KK F x kd ∧ okK kvs kd = true ∧ kvs.length < sizeLine ∧ Dq KK F v dv ∧ ∀ o', DcOk KK F a (putD kvs kd dv) o' → D.nx σ (upd H3 a o')) I
      ⟨ρ, st, μ, F, h1, h2, PostS.bindV h3 fun x s v μ1 F1 H1 x1 r1 k1 h4 => ⟨ρ, s, μ1, F1, h1.ext x1, r1, PostS.bindV h4 fun y s2 u μ2 F2 H2 x2 r2 k2 h5 => ⟨ρ, s2, μ2, F2, (h1.ext x1).ext x2, r2, PostS.bindV h5 fun z s3 w μ3 F3 H3 x3 r3 k3 h6 => ?_⟩⟩⟩)
    fun r s1 ⟨v, H1, I1, rv, q1⟩ => thn ((pv_frz ho).run pins s1 σ H1 _ I1 q1) fun u s2 ⟨y, H2, I2, ry, q2⟩ => thn ((pv_frz hi).run pins s2 σ H2 _ I2 q2) fun iv s3 ⟨x, H3, I3, rx, KK, F, a, ob, kvs, kd, dv, hw, ey, ha, sub, hc, hk, ok, hl, hv, q⟩ => ?_) hs
  · cases x with
    | d x =>
      cases y with
      | c j =>
        cases z with
        | d k =>
          cases q : s3[j]? with
          | none => simp only [q] at h6; exact False.elim h6
          | some cl =>
            cases cl with
            | l _ => simp only [q] at h6; exact False.elim h6
            | m kvs =>
              simp only [q] at h6
              by_cases hh : okK kvs k = true ∧ kvs.length < sizeLine
              · rw [if_pos hh] at h6
                obtain ⟨a, e1, rfl⟩ := k2
                have e1 := x3.get e1
                obtain ⟨b, ob, g1, g2, g3⟩ := r3.cell j _ q (ok_notGone hh.1)
                rw [e1] at g1; cases g1
                refine ⟨C.K, F3, a, ob, kvs, k, x, B.hw, rfl, g2, r3.sub, g3, k3, hh.1, hh.2, (Dq.same x2.same k1).same x3.same, fun o' hc' => ?_⟩
                obtain ⟨w1, w2⟩ := r3.write e1 (show ClOk C.K F3 a (.m (putD kvs k x)) o' from hc') q (ok_notGone hh.1)
                exact h6 _ _ _ _ w2 w1 ((((h1.ext x1).ext x2).ext x3).ext w2)
              · rw [if_neg hh] at h6; exact False.elim h6
        | _ => exact False.elim h6
      | _ => exact False.elim h6
    | _ => exact False.elim h6
  · subst ey
    cases ry
    exact d_put B.rm.hu I3 hw ha sub hc hk ok hl hv rx rv fun o' s' hc' I' => ⟨σ, _, I', q o' hc'⟩
variable {E : Er → Sto → Prop} {ρ : En} {st : Sto} {N Bk Ct : En → Sto → Prop} {R : Rv → Sto → Prop}
@[simp] theorem W_sDput : WSe E (sDput mo mi mv ρ st) N Bk Ct R = WVe E (mv ρ st) fun x s1 => WVe E (mo ρ s1) fun y s2 => WVe E (mi ρ s2) fun z s3 => (match frz x, frz y, frz z with
    | .d x, .c i, .d k => (match s3[i]? with
      | some (.m kvs) => (okK kvs k = true ∧ kvs.length < sizeLine) ∧ N ρ (s3.set i (.m (putD kvs k x)))
      | _ => False)
    | _, _, _ => False) := by
  unfold sDput
  rw [WS_toS, W_mV]
  congr 1; funext x s1; rw [WS_toS, W_mV]
  congr 1; funext y s2; rw [WS_toS, W_mV]
  congr 1; funext z s3
  generalize frz x = x'
  generalize frz y = y'
  generalize frz z = z'
  cases x' <;> cases y' <;> cases z' <;> try rfl
  rename_i x i k
  dsimp only
  cases s3[i]? with
  | none => rfl
  | some c =>
    cases c with
    | l _ => rfl
    | m kvs =>
      dsimp only
      by_cases hh : okK kvs k = true ∧ kvs.length < sizeLine
      · rw [if_pos hh]; exact propext ⟨fun z => ⟨hh, z⟩, fun z => z.2⟩
      · rw [if_neg hh]; exact propext ⟨fun z => False.elim z, fun z => absurd z.1 hh⟩
@[simp] theorem fDix_d (kvs : List (PyData × PyData)) (k : PyData) : fDix (.dict kvs) k = if okK kvs k = true then (lookD kvs k).map .d else none := rfl
@[simp] theorem gInD_d (neg : Bool) (a : PyData) (kvs : List (PyData × PyData)) : gInD neg a (.dict kvs) = if okK kvs a = true then some (if neg then !(lookD kvs a).isSome else (lookD kvs a).isSome) else none := rfl
end
end Cp
/-! De: d.update(d2), sorted(d) of flat dicts. -/
namespace Cp
open PySem L2
/-! ### d.update(d2), flat keys -/
def mergeD (kvs lvs : List (PyData × PyData)) : List (PyData × PyData) := lvs.foldl (fun acc p => putD acc p.1 p.2) kvs
section
variable {X : Cx} {C : Cn} {o e a : Expr} {mo ma : Ev} {apos cpos pos p : Pos}
def mUpd (mo ma : Ev) : Ev := fun ρ st => (mV mo ρ st).bind fun x s1 => match view s1 x with
  | some (.dict kvs0) => if flK kvs0 = true then (mV ma ρ s1).bind fun y s2 => match x, y with
    | .c i, .d (.dict lvs) => (match s2[i]? with
      | some (.m kvs) => if flK kvs = true ∧ flK lvs = true ∧ isGone (.m kvs) = false ∧ kvs.length + lvs.length ≤ sizeLine then .ok (.d .none) (s2.set i (.m (mergeD kvs lvs))) else .no
      | _ => .no)
    | _, _ => .no else .no
  | _ => .no
variable {E : Er → Sto → Prop} {ρ : En} {st : Sto} {PE' : Rv → Sto → Prop}
@[simp] theorem W_mUpd : WVe E (mUpd mo ma ρ st) PE' = WVe E (mo ρ st) fun x s1 => (match view s1 (frz x) with
    | some (.dict kvs0) => flK kvs0 = true ∧ WVe E (ma ρ s1) fun y s2 => (match frz x, frz y with
      | .c i, .d (.dict lvs) => (match s2[i]? with
        | some (.m kvs) => (flK kvs = true ∧ flK lvs = true ∧ isGone (.m kvs) = false ∧ kvs.length + lvs.length ≤ sizeLine) ∧ PE' (.d .none) (s2.set i (.m (mergeD kvs lvs)))
        | _ => False)
      | _, _ => False)
    | _ => False) := by
  unfold mUpd; rw [WV_bind, W_mV]
  congr 1; funext x s1
  generalize frz x = x'
  cases view s1 x' with
  | none => rfl
  | some d =>
    cases d with
    | dict kvs0 =>
      dsimp only
      by_cases hf0 : flK kvs0 = true
      case neg => rw [if_neg hf0]; exact propext ⟨fun z => False.elim z, fun z => absurd z.1 hf0⟩
      rw [if_pos hf0, and_iff_right hf0, WV_bind, W_mV]
      congr 1; funext y s2
      generalize frz y = y'
      cases x' with
      | c i =>
        cases y' with
        | d d =>
          cases d with
          | dict lvs =>
            dsimp only
            cases s2[i]? with
            | none => rfl
            | some c =>
              cases c with
              | l _ => rfl
              | m kvs =>
                dsimp only
                by_cases hh : flK kvs = true ∧ flK lvs = true ∧ isGone (.m kvs) = false ∧ kvs.length + lvs.length ≤ sizeLine
                · rw [if_pos hh]; exact propext ⟨fun z => ⟨hh, z⟩, fun z => z.2⟩
                · rw [if_neg hh]; exact propext ⟨fun z => False.elim z, fun z => absurd z.1 hh⟩
          | _ => rfl
        | _ => rfl
      | _ => rfl
    | _ => rfl
end
/-! ### sorted(d), its keys texts -/
end Cp
/-! Df: a sign in a text; comprehensions that map and pick. -/
namespace Cp
open PySem L2
def gInS (neg : Bool) (a b : PyData) : Option Bool := match a, b with
  | .str x, .str z => (match x.cps.toList with
    | [c] => some (if neg then !decide (c ∈ z.cps.toList) else decide (c ∈ z.cps.toList))
    | _ => none)
  | _, _ => none
section
variable {X : Cx} {C : Cn} {a b : Expr} {ma mb : Ev} {pos : Pos} {k : Nat}
theorem one_sign {x : Str} {c : Nat} (h : x.cps.toList = [c]) : x = ⟨#[c]⟩ := by
  obtain ⟨⟨l⟩⟩ := x
  simp only at h
  subst h; rfl
theorem gInS_ok : CmpOk C rInS (gInS false) := by
  intro a b k v u μ F H st Q s va vb e q
  unfold gInS at e
  split at e
  · rename_i x z
    split at e
    · rename_i c hc
      cases e
      have ev := va.str
      have eu := vb.str
      subst ev eu
      exact ⟨c, z, by rw [one_sign hc], rfl, q⟩
    · cases e
  · cases e
theorem v_sIn (ha : PE X a (tM C ma)) (hb : PE X b (tM C mb)) (hm : behindInMarks .In b = false) : PE X (.Compare a [.In] [b] pos) (tM C (bV (mCmp (gInS false) ma mb))) := s_cmp op_inS gInS_ok ha hb hm
end
/-! ### comprehensions whose body turns nothing -/
section
variable {E : Er → Sto → Prop} {st : Sto} {ρ : En} {g g1 : Gm} {tt tt1 : En → Sto → Res Bool} {te : Ev} {all : List PyData} {P : List PyData → Sto → Prop}
theorem filter_take_succ {α : Type} {l : List α} {i : Nat} {x : α} (h : l[i]? = some x) (p : α → Bool) : (l.take (i + 1)).filter p = (l.take i).filter p ++ if p x then [x] else [] := by
  rw [List.take_succ, h, List.filter_append]
  simp only [Option.toList_some, List.filter_cons, List.filter_nil]
theorem lc_pick (sel : PyData → Bool) (f : PyData → PyData) {ds : List PyData}
    (hs : ∀ d ∈ ds, WVe noE (g (.d d) ρ st) fun ρ1 s1 => WVe noE (tt ρ1 s1) fun k s2 => k = sel d ∧ (if k = true then WVe noE (te ρ1 s2) fun r s3 => frz r = .d (f d) ∧ s3 = st else s2 = st))
    (hl : ds.length ≤ sizeLine) (h : P ((ds.filter sel).map f) st) : WVe E (lcGo g tt te none all ρ ds st []) P := by
  refine lcGo_by (I := fun i s a => s = st ∧ a = ((ds.take i).filter sel).map f) ds 0 [] ⟨rfl, rfl⟩ (fun _ _ _ _ => trivial) ?_ ?_
  · rintro i d s a hd ⟨rfl, ha⟩
    rw [Nat.zero_add] at ha ⊢
    have hi : i < ds.length := (List.getElem?_eq_some_iff.mp hd).1
    refine WV_mono (hs d (List.mem_of_getElem? hd)) fun ρ1 s1 h1 => WV_mono h1 fun k s2 h2 => ?_
    obtain ⟨rfl, h2⟩ := h2
    rw [filter_take_succ hd]
    cases q : sel d with
    | true =>
      rw [q] at h2
      simp only [if_true] at h2 ⊢
      refine WV_mono h2 fun r s3 h3 => ⟨f d, h3.1, ?_, h3.2, by rw [ha, List.map_append]; rfl⟩
      have h4 : a.length ≤ i := by
        rw [ha, List.length_map]
        exact Nat.le_trans (List.length_filter_le _ _) (by rw [List.length_take]; omega)
      omega
    | false =>
      rw [q] at h2
      simp only [Bool.false_eq_true, if_false] at h2 ⊢
      exact ⟨h2, by rw [ha]; simp⟩
  · rintro s a ⟨rfl, ha⟩
    rw [ha, Nat.zero_add, List.take_length]
    exact h
theorem lc_map (f : PyData → PyData) {ds : List PyData} (hs : ∀ d ∈ ds, WVe noE (g (.d d) ρ st) fun ρ1 s1 => WVe noE (te ρ1 s1) fun r s3 => frz r = .d (f d) ∧ s3 = st) (hl : ds.length ≤ sizeLine) (h : P (ds.map f) st) :
    WVe E (lcGo g ttY te none all ρ ds st []) P := by
  refine lc_pick (fun _ => true) f (fun d hd => WV_mono (hs d hd) fun ρ1 s1 h1 => ?_) hl (by rw [List.filter_eq_self.mpr (fun _ _ => rfl)]; exact h)
  rw [W_ttY]
  exact ⟨rfl, by rw [if_pos rfl]; exact h1⟩
end
end Cp
/-! Cth: a lambda without parameters, handed to a def that calls it within a try. -/
namespace Cp
open PySem PySem.Spec PyProof.Rows L2 LamX
/-! ### the table as a cell -/
section
variable {K : Kw} {μ : Mu} {F H : Hp} {st : Sto}
theorem SR.table (s : SR K μ F H st) {n : Nat} {x q : Str} (h : st[n]? = some (tabC x q)) : ∃ P ps, n ≠ 0 ∧ μ.l[n]? = some P ∧ H P = some (.tbl ps) ∧ (He.cT K.K (dfn x)).2 = P ∧ TriplesOk ps.toList ∧ ∀ (pos : Pos) (cv : Value), codeAmong pos ps.toList = some cv → ∃ c', cv = .ref c' ∧ F c' = some (CodeO c' q) := by
  have n0 : n ≠ 0 := fun e => by
    subst e
    obtain ⟨objs, k, _⟩ := s.obs
    rw [k] at h
    injection h with h
    unfold heapC tabC at h
    injection h with h; injection h with h _; injection h with _ h; cases h
  obtain ⟨P, o, h1, h2, h3⟩ := s.cell0 n _ n0 h
  rcases h3 with ⟨_, h3⟩ | h3
  · obtain ⟨k1, ps, k2, k3, k4⟩ := h3 x q rfl
    subst k2
    exact ⟨P, ps, n0, h1, h2, k1, k3, k4⟩
  · exfalso
    have h3 : DcOk K F P [(.list [], .tuple [.str x, .str q])] o := h3
    rcases h3 with ⟨ws, _, d⟩ | ⟨es, _, d, _⟩
    · generalize e : (PyData.list [], PyData.tuple [.str x, .str q]) = p at d
      cases d with
      | @cons k v ws d kvs a b =>
        injection e with e1 e2
        cases k <;> cases e1
    · cases d with
      | cons _ e _ _ _ => simp [keyN] at e
theorem SR.tabbed (s : SR K μ F H st) {n : Nat} {x q : Str} {P c' : Addr} {ps ps' : Array Value} (n0 : n ≠ 0) (hst : st[n]? = some (tabC x q)) (hμ : μ.l[n]? = some P) (hP : H P = some (.tbl ps)) (hx : (He.cT K.K (dfn x)).2 = P) (hc : H c' = none)
    (ht : TriplesOk ps'.toList) (ha : ∀ (pos : Pos) (cv : Value), codeAmong pos ps'.toList = some cv → (∃ c', cv = .ref c' ∧ F c' = some (CodeO c' q)) ∨ cv = .ref c') :
    SR K μ (upd F c' (CodeO c' q)) (upd (upd H P (.tbl ps')) c' (CodeO c' q)) st ∧ Ext μ F H μ (upd F c' (CodeO c' q)) (upd (upd H P (.tbl ps')) c' (CodeO c' q)) := by
  have hd := s.dead hc
  have hF := s.sep n P _ hμ hst rfl
  have nPc : P ≠ c' := fun e => by rw [e, hc] at hP; cases hP
  have hm : P ∈ μ := Mu.mem_l hμ n0
  have sm : Same F (upd F c' (CodeO c' q)) := fun b u h => by
    rw [upd_ne (fun e => by subst e; rw [hd.1] at h; cases h)]; exact h
  have other : ∀ b, b ≠ P → b ≠ c' → upd (upd H P (.tbl ps')) c' (CodeO c' q) b = H b := fun b h1 h2 => by rw [upd_ne h2, upd_ne h1]
  have dead0 : ∀ {i : Nat} {c : Cl}, st[i]? = some c → isDead c = false → i ≠ 0 := fun {i c} h2 h3 e => by
    subst e
    obtain ⟨objs, k, _⟩ := s.obs
    rw [k] at h2; cases h2; cases h3
  refine ⟨⟨s.nd, s.len, fun i a c h h2 h3 => ?_, fun b u h => ?_, fun i d i0 h => ?_, ?_⟩, ⟨sm, ⟨[], by simp⟩, ⟨[], by simp⟩, fun b u h n => ?_, fun b h => ?_, fun a u h => ?_, fun _ h => .inl h⟩⟩
  · rw [upd_ne (fun e => by subst e; exact hd.2 (Mu.mem_l h (dead0 h2 h3)))]; exact s.sep i a c h h2 h3
  · by_cases e : b = c'
    · subst e; rw [upd_same] at h ⊢; exact h
    · rw [upd_ne e] at h
      rw [other b (fun z => by subst z; rw [hF] at h; cases h) e]; exact s.sub b u h
  · by_cases e : i = n
    · subst e
      rw [hst] at h; cases h
      refine ⟨P, _, hμ, by rw [upd_ne nPc, upd_same], .inl ⟨rfl, fun y r z => ?_⟩⟩
      unfold tabC at z
      injection z with z; injection z with z _; injection z with _ z; injection z with z
      injection z with z1 z2; injection z2 with z2 _; injection z1 with z1; injection z2 with z2
      subst z1 z2
      refine ⟨hx, ps', rfl, ht, fun pos cv q' => ?_⟩
      rcases ha pos cv q' with ⟨c2, k1, k2⟩ | k
      · exact ⟨c2, k1, sm _ _ k2⟩
      · exact ⟨c', k, upd_same⟩
    · obtain ⟨a, u, h1, h2, h3⟩ := s.cell0 i d i0 h
      refine ⟨a, u, h1, ?_, h3.same sm⟩
      rw [other a (fun z => ?_) (fun z => by subst z; exact hd.2 (Mu.mem_l h1 i0))]; exact h2
      subst z
      exact e (s.one h1 hμ i0 n0)
  · obtain ⟨objs, k1, k2, k3⟩ := s.obs
    refine ⟨objs, k1, k2, fun j y e => ?_⟩
    obtain ⟨a, u, q1, q2, q3, q4⟩ := k3 j y e
    have ac : a ≠ c' := fun z => by subst z; rw [hc] at q3; cases q3
    exact ⟨a, u, q1, by rw [upd_ne ac]; exact q2, by rw [other a (Ne.symm (s.apart hμ q1 n0)) ac]; exact q3, q4.same sm⟩
  · rw [other b (fun z => by subst z; exact n hm) (fun z => by subst z; rw [hc] at h; cases h)]; exact h
  · by_cases e : b = c'
    · subst e; exact hc
    · by_cases e2 : b = P
      · subst e2; rw [upd_ne e, upd_same] at h; cases h
      · rw [other b e2 e] at h; exact h
  · by_cases e : a = c'
    · subst e; exact .inr (.inl hc)
    · rw [upd_ne e] at h; exact .inl h
end
/-! ### the lambda is made -/
section
variable {X : Cx} {pins : List (Addr × Obj)} {σ : L2.St} {H : Hp} {s : Shared}
theorem lam_make3 {c P : Addr} {ps : Array Value} {params : Arguments} {body : Expr} {scope : Scope} {pos : Pos} {E : Value → Shared → Prop} {Q : Value → Shared → Prop} (I : Inv X pins σ H s) (TB : TabB X.base X.mg c P) (hcode : X.env.code = .ref c)
    (hP : H P = some (.tbl ps)) (ht : TriplesOk ps.toList) (ha : ∀ (pos : Pos) (cv : Value), codeAmong pos ps.toList = some cv → ∃ c, cv = .ref c ∧ H c = some (CodeO c (X.env.qual ++ "<lambda>")))
    (hdef : defaultsOf params X.env = ([], [])) (hfree : ∀ y ∈ scope.names, y.2 = .free → ∃ c, X.env.cells.lookup y.1 = some c)
    (h : ∀ (f c' : Addr) (pm ctv : Value) (H1 : Hp) (s' : Shared), Inv X pins σ H1 s' →
      ((H1 = H ∧ codeAmong pos ps.toList = some (.ref c')) ∨ (H c' = none ∧ ∃ ps' : Array Value, H1 = upd (upd H P (.tbl ps')) c' (CodeO c' (X.env.qual ++ "<lambda>")) ∧ TriplesOk ps'.toList ∧ ∀ (p' : Pos) (cv : Value), codeAmong p' ps'.toList = some cv → codeAmong p' ps.toList = some cv ∨ cv = .ref c')) →
      s'.heap.get? f = some (PySem.W.kla_obj "<lambda>" (X.env.qual ++ "<lambda>") params body scope (cloFrom X.env.cells scope.names []) pm c' ctv) → H1 f = none → f ∉ frs X.stack → Q (.ref f) s') :
    wpAny (model X.prog X.w) X.A (eval (.Lambda params body scope pos) X.env) Q E s := by
  refine PySem.W.kla_eval hdef ?_
  have bP : s.heap.BuiltinsAt X.mg P := TB.bm.keeps I.bk
  have hP' : s.heap.get? P = some { cls := .none, data := .fields ps } := I.hok P _ hP
  have nofr : ∀ f, s.heap.objs.size ≤ f → f ∉ frs X.stack := fun f hf z => by
    rcases List.mem_cons.mp (I.stkSub _ z) with e | e
    · have h1 := I.lt
      rw [← e] at h1
      exact Nat.lt_irrefl _ (Nat.lt_of_lt_of_le h1 hf)
    · exact I.nofs hf e
  cases hc : codeAmong pos ps.toList with
  | none =>
    refine PySem.W.kla_makeFunction (mg := X.mg) (c := c) (P := P) (ps := ps) (closure_ok hfree) I.ok.glob (I.mod.glob.keeps I.bk) hcode (TB.code.keeps I.bk) hP' ht hc TB.gP bP fun c' ctv h' tk hx hge hlt hrec htb => ?_
    obtain ⟨c2, oc, vs, t, e2, hoc, hd, hv⟩ := hrec
    cases e2
    have hsz : s.heap.objs.size ≤ h'.objs.size := Nat.le_trans hge (Nat.le_of_lt hlt)
    have nC : H c' = none := I.hok.fresh hge
    have I1 := inv_table (t' := tk) (more := #[rawInt pos.line, rawInt pos.col, .ref c']) (h' := h'.push (PySem.W.kla_obj "<lambda>" (X.env.qual ++ "<lambda>") params body scope (cloFrom X.env.cells scope.names []) ((X.mg "__name__").getD .none) c' ctv)) I hP
      (fun b o hb e => Heap.get?_push_of_some _ (hx b o hb e)) (Heap.get?_push_of_some _ htb) hge ⟨oc, vs, t, Heap.get?_push_of_some _ hoc, hd, hv⟩
    have eL : (ps ++ #[rawInt pos.line, rawInt pos.col, .ref c']).toList = ps.toList ++ [rawInt pos.line, rawInt pos.col, .ref c'] := by simp
    refine h h'.objs.size c' ((X.mg "__name__").getD .none) ctv _ _ I1 (.inr ⟨nC, _, rfl, by rw [eL]; exact PySem.TriplesOk_snoc _ _ _ _ ht, fun p' cv hcv => ?_⟩) (Heap.get?_push_size _ rfl) ?_ (nofr _ hsz)
    · rw [eL] at hcv
      exact among_app _ ht hcv
    · have n1 : h'.objs.size ≠ c' := Nat.ne_of_gt hlt
      have n2 : h'.objs.size ≠ P := Nat.ne_of_gt (Nat.lt_of_lt_of_le (Heap.lt_size hP') hsz)
      rw [upd_ne n1, upd_ne n2]
      exact I.hok.fresh hsz
  | some cv =>
    obtain ⟨c', e, hco⟩ := ha pos cv hc
    subst e
    refine PySem.W.kla_makeFunctionHit (mg := X.mg) (c := c) (P := P) (ps := ps) (closure_ok hfree) I.ok.glob (I.mod.glob.keeps I.bk) hcode (TB.code.keeps I.bk) hP' ht hc bP fun ctv h' tk hx hsz => ?_
    have I1 : Inv X pins σ H { s with heap := h'.push (PySem.W.kla_obj "<lambda>" (X.env.qual ++ "<lambda>") params body scope (cloFrom X.env.cells scope.names []) ((X.mg "__name__").getD .none) c' ctv), toks := tk } := I.kept fun b o e => Heap.get?_push_of_some _ (hx b o e)
    exact h h'.objs.size c' ((X.mg "__name__").getD .none) ctv H _ I1 (.inl ⟨rfl, hc⟩) (Heap.get?_push_size _ rfl) (I.hok.fresh hsz) (nofr _ hsz)
end
/-! ### its call, in the def that got it -/
open Classical in
/-- name(), where the name holds the thunk T -/
noncomputable def mAct (i : Nat) (T : Th) (m : Sto → Res Rv) : Ev := fun ρ st => if ρ[i]? = some (some (.o (.th T))) then m st else .no
/-- what is known of T, in the def entered from A, outer, s, H -/
def ActP (P : Program) (w : World) (K : PySem.W.Frag) (mg : Str → Option Value) (base : Heap) (A : Around) (outer : List Env) (s : Shared) (H : Hp) (E : XK) (j : Nat) (T : Th) (m : Sto → Res Rv) : Prop :=
  ∀ (N : List Str) (q : Str) (scope : Scope) (g : Addr) (cdv : Value) (pn : List (Addr × Obj)) (xe : Value → Shared → Prop) (C : Cn) (i : Nat) (a : Str) (p1 p2 : Pos),
    Bd j ((cxOf (L2.CX P w) P w K mg base N q scope g cdv A outer s H E).tr pn xe) C → N[i]? = some a → Vis scope a → (a == ("__debug__" : Str)) = false → (a == ("__classdict__" : Str)) = false →
    PE ((cxOf (L2.CX P w) P w K mg base N q scope g cdv A outer s H E).tr pn xe) (.Call (.Name a p1) [] [] p2) (tM C (mAct i T m))
section
variable {X : Cx} {pins : List (Addr × Obj)} {σ : L2.St} {H : Hp} {s : Shared} {k : Nat} {params : Arguments} {body : Expr} {scope : Scope} {mb : Ev}
theorem act_ok {f c' : Addr} {pm ctv : Value} {E : XK} {ds : List (Option Fv)} (I : Inv X pins σ H s) (L : LamS X.env.scope scope) (hnd : X.N.Nodup)
    (hf : s.heap.get? f = some (PySem.W.kla_obj "<lambda>" (X.env.qual ++ "<lambda>") params body scope (cloFrom X.env.cells scope.names []) pm c' ctv)) (hfn : H f = none) (hfr : f ∉ frs X.stack)
    (hbind : bindArgs (PySem.W.kla_fn "<lambda>" (X.env.qual ++ "<lambda>") params body scope (cloFrom X.env.cells scope.names []) pm (.ref c') ctv) ⟨[], []⟩ = pure [])
    (hbody : ∀ (A : Around) (outer : List Env) (s : Shared) (H : Hp) (E : XK), Bd k (lamCx X A outer s H E scope f c') (Cn.ofE ⟨X.K, X.w⟩ X.mg E) → PE (lamCx X A outer s H E scope f c') body (tM (Cn.ofE ⟨X.K, X.w⟩ X.mg E) mb)) :
    ActP X.prog X.w X.K X.mg X.base X.A X.stack s H E (k + 1) ⟨f, c', X.env.qual ++ "<lambda>", ds, σ⟩ (fun st => mb (ds.map (Option.map Fv.vl)) st) := by
  intro N qg sg g cdg pn xe C i a p1 p2 B hN hv hd hcd
  obtain ⟨⟨K, w⟩, mg, W, σC⟩ := C
  obtain rfl : K = X.K := B.hK
  obtain rfl : w = X.w := B.hw
  obtain rfl : mg = X.mg := B.hm
  refine ⟨fun pinsZ sZ σZ HZ Q IZ ⟨ρ, st, μ, F, h1, h2, h3⟩ => ?_⟩
  unfold mAct at h3
  dsimp only at h3
  by_cases hρ : ρ[i]? = some (some (.o (.th ⟨f, c', X.env.qual ++ "<lambda>", ds, σ⟩)))
  case neg => rw [if_neg hρ] at h3; exact False.elim h3
  rw [if_pos hρ] at h3
  obtain ⟨v0, hs, hob⟩ := h1.2 i _ hρ
  obtain ⟨ev0, hFc, hl, hds⟩ := hob
  subst ev0
  have hc : HZ c' = some (CodeO c' (X.env.qual ++ "<lambda>")) := h2.sub _ _ hFc
  refine wpAny_Call_Name_kw (thn ((pe_var (pos := p1) (i := i) hN hv hd hcd).run pinsZ sZ σZ HZ (fun v H1 => v = .ref f ∧ H1 = HZ) IZ ⟨.ref f, hs, rfl, rfl⟩) fun u s1 ⟨v, H1, I1, r1, q1⟩ => ?_)
  obtain ⟨ev, eH⟩ := q1
  subst ev
  rw [eH] at I1
  obtain rfl : u = Value.ref f := r1
  have of1 : s1.heap.get? f = some (PySem.W.kla_obj "<lambda>" (X.env.qual ++ "<lambda>") params body scope (cloFrom X.env.cells scope.names []) pm c' ctv) := I1.base.keep f _ hf hfn hfr (fun z => nomatch (show f ∈ ([] : List Addr) from z))
  refine PySem.W.callWith_F0 ⟨_, _, _, _, of1⟩ ?_
  have un : Un (frs X.stack) [] H HZ s.heap s1.heap := I1.base
  obtain ⟨⟨oc, vs, t, hoc, hdc, hvc⟩, _, _⟩ := I1.hok c' _ hc
  have hr : Room (k + 1) (X.A.deeper (envOfC qg sg s.heap.objs.size g cdg)) := B.rm.room
  have rc : codeAny (model X.prog X.w) (X.A.deeper (envOfC qg sg s.heap.objs.size g cdg)) (.call (.ref f) ⟨[], []⟩) (CR (L2.CX X.prog X.w) (envOfC qg sg s.heap.objs.size g cdg :: X.stack) X.prog X.w HZ s1 Q (fun cls d H' => W cls d σZ H')) s1 := by
    refine PySem.W.kla_callFunE hr.depth of1 rfl L.co L.gen rfl ⟨c', oc, vs, t, rfl, hoc, hdc, hvc⟩ ?_
    rw [hbind]
    refine wpAny_pure (wpAny_newFunctionEnv (fun y hy => (L.own y hy).2) (fun y hy => absurd hy (by simp)) (fun h₁ hns hsb => ⟨I1.nolimit.fresh _ hsb, ?_⟩) L.kind)
    show codeAny _ _ (.expr body (lamEnv X scope s1.heap.objs.size f c')) _ _
    have kp : ∀ b o, s1.heap.get? b = some o → h₁.get? b = some o := fun b o e => hsb.extBut b o (Nat.ne_of_lt (Heap.lt_size e)) (Heap.get?_push_of_some _ e)
    have J : Inv (lamCx X (X.A.deeper (envOfC qg sg s.heap.objs.size g cdg)) (envOfC qg sg s.heap.objs.size g cdg :: X.stack) s1 HZ (fun cls d H' => W cls d σZ H') scope f c') [] σ HZ { s1 with heap := h₁, toks := s1.toks + ([] : List (Str × Value)).length } :=
      lam_start2 I L I1.env0 hr.hd un hns kp
    have rm2 : Rm k ((X.A.deeper (envOfC qg sg s.heap.objs.size g cdg)).deeper (lamEnv X scope s1.heap.objs.size f c')) := ⟨hr.deeper _, B.rm.gd⟩
    have bd : Bd k (lamCx X (X.A.deeper (envOfC qg sg s.heap.objs.size g cdg)) (envOfC qg sg s.heap.objs.size g cdg :: X.stack) s1 HZ (fun cls d H' => W cls d σZ H') scope f c') (Cn.ofE ⟨X.K, X.w⟩ X.mg fun cls d H' => W cls d σZ H') :=
      ⟨rfl, hnd, passes_of rfl, fun σ pins H s e s' I c => passes_call (takes_of rfl rfl rfl rfl) (fun _ _ _ _ h => h) pins σ H s e s' I c, rfl, rfl, rfl, rm2, takes_of rfl rfl rfl rfl⟩
    refine PySem.W.kla_codeExpr (wpAny_mono ((hbody _ _ s1 HZ _ bd).run [] _ _ HZ Q J ⟨ds.map (Option.map Fv.vl), st, μ, F, ⟨by rw [List.length_map]; exact hl, fun j y e => ?_⟩, h2, h3⟩) (fun v s' hq => ?_) fun e s' hq => hq)
    · rw [List.getElem?_map] at e
      cases q : ds[j]? with
      | none => rw [q] at e; cases e
      | some o =>
        rw [q] at e
        cases o with
        | none => cases e
        | some d => cases e; obtain ⟨u, y1, y2⟩ := hds j d q; exact ⟨u, y1, by cases d <;> exact y2⟩
    · obtain ⟨w', H', J', rv, q⟩ := hq
      exact ⟨w', H', J'.os, J'.bare, J'.base, J'.hok, rv, q⟩
  refine wpAny_call (codeAny_mono rc fun r s' hq => ?_)
  cases r with
  | error e => exact B.ps σZ pinsZ HZ s1 e s' I1 hq
  | ok fl =>
    cases fl with
    | ret u => exact I1.after hq
    | next => exact False.elim hq
    | brk => exact False.elim hq
    | cont => exact False.elim hq
end
/-! ### a def that takes a thunk -/
def KnL (P : Program) (w : World) (K : PySem.W.Frag) (mg : Str → Option Value) (base : Heap) (x : Str) (k : Nat) (sem : Th → (Sto → Res Rv) → Fs) : Prop :=
  ∃ g fd a, mg x = some (.ref g) ∧ PySem.W.keepIn K (.ref g) = true ∧ Binds K fd [a] [] ∧
    ∀ (A : Around) (outer : List Env) (s : Shared) (H : Hp) (args : Args) (us : List Value) (vs : List V) (Q : VK) (E : XK) (T : Th) (m : Sto → Res Rv), Rm (k + 1) A → Env0 P w K mg base A outer s H → BindsTo s fd args (([a] : List Str).zip us) → Vals vs us → ActP P w K mg base A outer s H E k T m →
      spF ⟨K, w⟩ mg (sem T m) vs H Q E → codeAny (model P w) A (.call (.ref g) args) (CR (L2.CX P w) outer P w H s Q E) s
section
variable {P : Program} {w : World} {K : PySem.W.Frag} {mg : Str → Option Value} {base : Heap} {k : Nat} {x : Str} {N ps : List Str} {sb : Sv}
theorem run_of {st : Stmt} {f : Addr} {oc kV doc pm cdv ct : Value} {od an : Option Addr} {osl : Array (Option Value)} {A : Around} {outer : List Env} {s : Shared} {H : Hp} {args : Args} {us : List Value} {vs : List V} {Q : VK} {E : XK}
    (lk : K.lookup f = some ⟨oc, od, .func (PySem.W.fnOf x x (defArgs st) (defBody st) (defScope st) .none kV doc pm an cdv ct), osl⟩) (S : FnScope N ps (defScope st)) (hr : Rm (k + 1) A) (e0 : Env0 P w K mg base A outer s H)
    (hbd : BindsTo s (PySem.W.fnOf x x (defArgs st) (defBody st) (defScope st) .none kV doc pm an cdv ct) args (ps.zip us)) (r : Vals vs us) (hcd : PySem.W.codeIn K cdv x = true) (hsp : spF ⟨K, w⟩ mg (bodyF N.length ps.length sb) vs H Q E)
    (body : Bd k (cxOf (L2.CX P w) P w K mg base N x (defScope st) f cdv A outer s H E) (Cn.ofE ⟨K, w⟩ mg E) →
      PSs (cxOf (L2.CX P w) P w K mg base N x (defScope st) f cdv A outer s H E) (defBody st) (tS (Cn.ofE ⟨K, w⟩ mg E) sb)) : codeAny (model P w) A (.call (.ref f) args) (CR (L2.CX P w) outer P w H s Q E) s := by
  have hl : vs.length = ps.length := by
    obtain ⟨args, st, μ, F, a, b, c⟩ := hsp
    unfold bodyF at c
    by_cases hl : args.length = ps.length
    · rw [← a.length, hl]
    · rw [if_neg hl] at c; exact False.elim c
  have KX : K.In s.heap := e0.mod.kin.keeps fun b o e => (e0.bs b o e).1
  have lim : s.heap.NoLimit := e0.mod.nolimit.keeps fun b o e => (e0.bs b o e).1
  have hkind : ∀ y ∈ ps.zip us, (defScope st).names.lookup y.1 = some .local ∨ ((defScope st).names.lookup y.1 = some .cell ∧ ((cellsFrom (s.heap.objs.size + 1) (defScope st).names []).lookup y.1).isSome = true) := fun ⟨n, v⟩ hy =>
    (S.par n (List.of_mem_zip hy).1).imp id fun q => ⟨q, PySem.W.cellsFrom_some _ _ _ (.inl q)⟩
  refine codeAny_call_function hr.room.depth (KX _ _ lk) rfl S.co S.gen rfl (PySem.W.codeRec_of KX hcd) (hbd _ _ _ _ ?_)
  refine wpAny_newFunctionEnv_cells S.kind hkind fun env he s1 y => ?_
  subst he
  refine ⟨lim.keeps y.toInCall.keep, codeAny_func ?_⟩
  have hr2 : Rm k (A.deeper (PyProof.Rows.envOfC x (defScope st) s.heap.objs.size f cdv)) := ⟨hr.room.deeper _, hr.gd⟩
  have I : Inv (cxOf (L2.CX P w) P w K mg base N x (defScope st) f cdv A outer s H E) [] (L2.start N vs) H s1 := inv_start S hr.room.hd e0 hl r y
  have bd : Bd k (cxOf (L2.CX P w) P w K mg base N x (defScope st) f cdv A outer s H E) (Cn.ofE ⟨K, w⟩ mg E) := ⟨rfl, S.nd, passes_of rfl, fun σ pins H s e s' I c => passes_call (takes_of rfl rfl rfl rfl) (fun _ _ _ _ h => h) pins σ H s e s' I c, rfl, rfl, rfl, hr2, takes_of rfl rfl rfl rfl⟩
  obtain ⟨as, st0, μ, F0, a, b, c⟩ := hsp
  have hal : as.length = ps.length := by rw [a.length, hl]
  unfold bodyF at c
  rw [if_pos hal] at c
  refine wpAny_mono ((body bd).run [] s1 (L2.start N vs) H { nx := fun _ H' => Q .non H', rt := Q } I ⟨_, st0, μ, F0, start_ok N a, b, ?_⟩) (fun fl s' hs => ?_) fun e s' hs => hs
  · show PostS _ _ μ F0 H (sb (as.map some ++ List.replicate (N.length - as.length) none) st0)
    cases q : sb (as.map some ++ List.replicate (N.length - as.length) none) st0 with
    | rt r s => simp only [q] at c; exact c
    | nx ρ s => simp only [q] at c; exact fun σ' μ' F' H' x2 r2 _ => c .non μ' F' H' ⟨x2, r2, .non, fun _ e => nomatch e⟩
    | er e s => simp only [q] at c; exact c
    | bk ρ s => simp only [q] at c; exact False.elim c
    | ct ρ s => simp only [q] at c; exact False.elim c
    | no => simp only [q] at c; exact False.elim c
  · have fin : ∀ {σ' : L2.St} {H' : Hp} {v : V} {u : Value}, Inv (cxOf (L2.CX P w) P w K mg base N x (defScope st) f cdv A outer s H E) [] σ' H' s' → RelV v u → Q v H' → CE outer P w H s Q u s' :=
      fun {σ' H' v u} J rv q => ⟨v, H', J.os, J.bare, J.base, J.hok, rv, q⟩
    cases fl with
    | ret u => obtain ⟨v, σ', H', J, rv, q⟩ := hs; exact fin J rv q
    | next => obtain ⟨σ', H', J, q⟩ := hs; exact fin (v := V.non) (u := Value.none) J rfl q
    | brk => obtain ⟨_, _, _, q⟩ := hs; exact False.elim q
    | cont => obtain ⟨_, _, _, q⟩ := hs; exact False.elim q
theorem kn_defL {st : Stmt} {a : Str} {sb : Th → (Sto → Res Rv) → Sv} (D : Df K mg x st) (S : FnScope N [a] (defScope st))
    (hb : ∀ (kV doc pm : Value) (an : Option Addr) (cdv ct : Value) (us : List Value), us.length = ([a] : List Str).length → bindArgs (PySem.W.fnOf x x (defArgs st) (defBody st) (defScope st) .none kV doc pm an cdv ct) ⟨us, []⟩ = pure (([a] : List Str).zip us))
    (body : ∀ (T : Th) (m : Sto → Res Rv) (cdv : Value) (f : Addr) (A : Around) (outer : List Env) (s : Shared) (H : Hp) (E : XK), ActP P w K mg base A outer s H E k T m → Bd k (cxOf (L2.CX P w) P w K mg base N x (defScope st) f cdv A outer s H E) (Cn.ofE ⟨K, w⟩ mg E) →
      PSs (cxOf (L2.CX P w) P w K mg base N x (defScope st) f cdv A outer s H E) (defBody st) (tS (Cn.ofE ⟨K, w⟩ mg E) (sb T m))) : KnL P w K mg base x k (fun T m => bodyF N.length 1 (sb T m)) := by
  obtain ⟨f, fd, F, hm⟩ := D
  have hbi := F.bindsN hb
  have kp := F.kp
  refine ⟨f, fd, a, hm, kp, hbi, fun A outer s H args us vs Q E T m hr e0 hbd r act hsp => ?_⟩
  obtain ⟨oc, od, dV, kV, doc, pm, an, cdv, ct, osl, rfl, lk, hcd, hD, hK⟩ := F.ex
  rcases hD with ⟨_, rfl⟩ | ⟨e, _⟩
  · exact run_of (st := st) lk S hr e0 hbd r hcd hsp fun B => body T m cdv f A outer s H E act B
  · exact absurd rfl e
end
/-! ### g(lambda: e) -/
def dOnly (ρ : En) : List (Option Fv) := ρ.map fun o => match o with
  | some (.d x) => some (.d x)
  | some (.o (.ob j)) => some (.ob j)
  | _ => none
open Classical in
/-- what is the same for all thunks -/
noncomputable def comm (f : Th → Res Rv) : Res Rv := if h : ∃ r, ∀ T, f T = r then h.choose else .no
theorem comm_eq {f : Th → Res Rv} {r : Res Rv} (h : ∀ T, f T = r) : comm f = r := by
  unfold comm
  have hh : ∃ r, ∀ T, f T = r := ⟨r, h⟩
  rw [dif_pos hh, ← hh.choose_spec ⟨0, 0, "", [], []⟩, h]
theorem comm_of {f : Th → Res Rv} : comm f = .no ∨ ∀ T, f T = comm f := by
  unfold comm
  by_cases hh : ∃ r, ∀ T, f T = r
  · rw [dif_pos hh]; exact .inr hh.choose_spec
  · rw [dif_neg hh]; exact .inl rfl
open Classical in
noncomputable def mLam (n : Nat) (x q : Str) (sem : Th → (Sto → Res Rv) → Fs) (mb : Ev) : Ev := fun ρ st =>
  if st[n]? = some (tabC x q) then gcR st.length (comm fun T => sem T (fun s => mb ((dOnly ρ).map (Option.map Fv.vl)) s) [.o (.th T)] st) else .no
section
variable {X : Cx} {C : Cn} {k j n : Nat} {x g q : Str} {p pos lpos : Pos} {params : Arguments} {body : Expr} {scope : Scope} {mb : Ev} {sem : Th → (Sto → Res Rv) → Fs}
theorem lam_run {pins : List (Addr × Obj)} {σ : L2.St} {H : Hp} {s : Shared} {Q : VK} {μ : Mu} {F : Hp} {st : Sto} {ds : List (Option Fv)} (B : Bd k X C) (G : KnL X.prog X.w X.K X.mg X.base g (j + 1) sem) (hj : j + 2 ≤ k) (hg : Gl X g) (TB : TabB X.base X.mg (He.cT X.K (dfn x)).1 (He.cT X.K (dfn x)).2) (hcode : X.env.code = .ref (He.cT X.K (dfn x)).1) (hq : X.env.qual ++ "<lambda>" = q)
    (L : LamS X.env.scope scope) (hdef : defaultsOf params X.env = ([], [])) (hbind : ∀ (q : Str) (cl : List (Str × Addr)) (pm cv ctv : Value), bindArgs (PySem.W.kla_fn "<lambda>" q params body scope cl pm cv ctv) ⟨[], []⟩ = pure [])
    (hbody : ∀ (A : Around) (outer : List Env) (s : Shared) (H : Hp) (E : XK) (f c' : Addr), Bd j (lamCx X A outer s H E scope f c') (Cn.ofE ⟨X.K, X.w⟩ X.mg E) → PE (lamCx X A outer s H E scope f c') body (tM (Cn.ofE ⟨X.K, X.w⟩ X.mg E) mb))
    (I : Inv X pins σ H s) (h2 : SR C.K μ F H st) (hst : st[n]? = some (tabC x q)) (hl : ds.length = σ.length) (hds : ∀ (i : Nat) (d : Fv), ds[i]? = some (some d) → ∃ u, σ[i]? = some (some u) ∧ FvOk C.K F μ.η d u)
    (h3 : PostE (C.at σ) Q μ F H (gcR st.length (comm fun T => sem T (fun s => mb (ds.map (Option.map Fv.vl)) s) [.o (.th T)] st)))
    (hdb : (g == ("__debug__" : Str)) = false := by decide) :
    wpAny (model X.prog X.w) X.A (eval (.Call (.Name g p) [.Lambda params body scope lpos] [] pos) X.env) (EP X pins σ Q) X.xe s := by
  obtain ⟨gf, fd, a, hm, hkp, hb, G⟩ := G
  obtain ⟨⟨K, w⟩, mg, W, σC⟩ := C
  obtain rfl : K = X.K := B.hK
  obtain rfl : w = X.w := B.hw
  obtain rfl : mg = X.mg := B.hm
  subst hq
  obtain ⟨P, ps, n0, hμ, hP, hx, ht, ha⟩ := h2.table hst
  rcases comm_of (f := fun T => sem T (fun s => mb (ds.map (Option.map Fv.vl)) s) [.o (.th T)] st) with hc | hc
  · rw [hc] at h3; exact False.elim h3
  subst hx
  refine wpAny_Call_Name_kw (ld_glob I hg hm ?_ hdb)
  refine PySem.W.callWith_K (h₀ := X.base) I.ok.mod.kin hkp ?_ (by rfl) (by rfl)
  show wpAny _ _ (spliced ((false, eval (.Lambda params body scope lpos) X.env) :: backTo pos (starEach [] X.env))) _ _ s
  refine Calls.spliced_cons (lam_make3 I TB hcode hP ht (fun pos cv hcv => ?_) hdef (L.has I.ok) fun f c' pm' ctv H1 s' I1 hH hf hfn hfr => ?_)
  · obtain ⟨c', k1, k2⟩ := ha pos cv hcv
    exact ⟨c', k1, h2.sub _ _ k2⟩
  have key : ∃ F1, SR ⟨X.K, X.w⟩ μ F1 H1 st ∧ Ext μ F H μ F1 H1 ∧ F1 c' = some (CodeO c' (X.env.qual ++ "<lambda>")) := by
    rcases hH with ⟨rfl, hcv⟩ | ⟨nC, ps', rfl, ht', ha'⟩
    · obtain ⟨c2, k1, k2⟩ := ha _ _ hcv
      cases k1
      exact ⟨F, h2, Ext.refl, k2⟩
    · obtain ⟨r1, x1⟩ := h2.tabbed n0 hst hμ hP rfl nC ht' fun pos cv q => (ha' pos cv q).imp (fun z => ha pos cv z) id
      exact ⟨_, r1, x1, upd_same⟩
  obtain ⟨F1, r1, x1, hco⟩ := key
  refine Calls.spliced_nil ⟨I1.kIn, ?_⟩
  have act := act_ok (k := j) (E := fun cls d H => W cls d σ H) (ds := ds) I1 L B.nd hf hfn hfr (hbind _ _ _ _ _) fun A outer s H E => hbody A outer s H E f c'
  have sp : spF ⟨X.K, X.w⟩ X.mg (sem ⟨f, c', X.env.qual ++ "<lambda>", ds, σ⟩ (fun s => mb (ds.map (Option.map Fv.vl)) s)) [.ref f] H1 Q (fun cls d H => W cls d σ H) := by
    refine ⟨[.o (.th ⟨f, c', X.env.qual ++ "<lambda>", ds, σ⟩)], st, μ, F1, .cons ⟨rfl, hco, hl, fun i d e => ?_⟩ .nil, r1, ?_⟩
    · obtain ⟨u, k1, k2⟩ := hds i d e
      exact ⟨u, k1, k2.ext x1⟩
    · rw [hc ⟨f, c', X.env.qual ++ "<lambda>", ds, σ⟩]
      exact call_post h2 x1 h3
  refine wpAny_call (codeAny_mono (G X.A X.stack s' H1 ⟨[.ref f], []⟩ [.ref f] [.ref f] Q (fun cls d H => W cls d σ H) _ _ (B.rm.mono hj) I1.env0 (by have hb' := hb s' [.ref f] I1.kIn (by rfl); rw [List.append_nil] at hb'; exact hb') (.cons rfl .nil) act sp) fun r' s2 hq => ?_)
  cases r' with
  | error e => exact B.ps σ pins H1 s' e s2 I1 hq
  | ok fl =>
    cases fl with
    | ret u => exact I1.after hq
    | next => exact False.elim hq
    | brk => exact False.elim hq
    | cont => exact False.elim hq
theorem dOnly_ok {K : Kw} {F : Hp} {μ : Mu} {ρ : En} {σ : L2.St} (h : Eok K F μ ρ σ) : (dOnly ρ).length = σ.length ∧ ∀ (i : Nat) (d : Fv), (dOnly ρ)[i]? = some (some d) → ∃ u, σ[i]? = some (some u) ∧ FvOk K F μ.η d u := by
  refine ⟨by unfold dOnly; rw [List.length_map]; exact h.1, fun i d e => ?_⟩
  unfold dOnly at e
  rw [List.getElem?_map] at e
  cases q : ρ[i]? with
  | none => rw [q] at e; cases e
  | some o =>
    rw [q] at e
    cases o with
    | none => cases e
    | some y =>
      cases y with
      | d y =>
        cases e
        obtain ⟨u, k1, k2⟩ := h.2 i _ q
        exact ⟨u, k1, k2⟩
      | o y =>
        cases y with
        | ob y =>
          cases e
          obtain ⟨u, k1, k2⟩ := h.2 i _ q
          exact ⟨u, k1, k2⟩
        | _ => cases e
      | _ => cases e
theorem s_lam (B : Bd k X C) (G : KnL X.prog X.w X.K X.mg X.base g (j + 1) sem) (hj : j + 2 ≤ k) (hg : Gl X g) (TB : TabB X.base X.mg (He.cT X.K (dfn x)).1 (He.cT X.K (dfn x)).2) (hcode : X.env.code = .ref (He.cT X.K (dfn x)).1) (hq : X.env.qual ++ "<lambda>" = q)
    (L : LamS X.env.scope scope) (hdef : defaultsOf params X.env = ([], [])) (hbind : ∀ (q : Str) (cl : List (Str × Addr)) (pm cv ctv : Value), bindArgs (PySem.W.kla_fn "<lambda>" q params body scope cl pm cv ctv) ⟨[], []⟩ = pure [])
    (hbody : ∀ (A : Around) (outer : List Env) (s : Shared) (H : Hp) (E : XK) (f c' : Addr), Bd j (lamCx X A outer s H E scope f c') (Cn.ofE ⟨X.K, X.w⟩ X.mg E) → PE (lamCx X A outer s H E scope f c') body (tM (Cn.ofE ⟨X.K, X.w⟩ X.mg E) mb))
    (hdb : (g == ("__debug__" : Str)) = false := by decide) :
    PE X (.Call (.Name g p) [.Lambda params body scope lpos] [] pos) (tM C (mLam n x q sem mb)) := by
  refine ⟨fun pins s σ H Q I ⟨ρ, st, μ, F, h1, h2, h3⟩ => ?_⟩
  unfold mLam at h3
  dsimp only at h3
  by_cases hst : st[n]? = some (tabC x q)
  case neg => rw [if_neg hst] at h3; exact False.elim h3
  rw [if_pos hst] at h3
  obtain ⟨hl, hds⟩ := dOnly_ok h1
  exact lam_run B G hj hg TB hcode hq L hdef hbind hbody I h2 hst hl hds h3 hdb
end
section
variable {E : Er → Sto → Prop} {ρ : En} {st : Sto} {Q : Rv → Sto → Prop}
theorem W_mLam {n : Nat} {x q : Str} {sem : Th → (Sto → Res Rv) → Fs} {mb : Ev} (h : st[n]? = some (tabC x q)) {r : Rv} {s : Sto} (hs : ∀ T, sem T (fun s => mb ((dOnly ρ).map (Option.map Fv.vl)) s) [.o (.th T)] st = .ok r s) (hb : back st.length r s Q) : WVe E (mLam n x q sem mb ρ st) Q := by
  unfold mLam
  rw [if_pos h, comm_eq hs]
  unfold back at hb
  cases r with
  | c i =>
    unfold gcR
    simp only at hb ⊢
    by_cases hi : i < st.length
    · rw [if_pos hi] at hb ⊢; exact hb
    · rw [if_neg hi] at hb ⊢
      cases q : s[i]? with
      | none => rw [q] at hb; exact hb
      | some c =>
        rw [q] at hb
        have hb : isGone c = false ∧ Q (.n c) (s.take st.length) := hb
        simp only [hb.1]; exact hb.2
  | _ => exact hb
open Classical in
theorem W_mAct {i : Nat} {T : Th} {m : Sto → Res Rv} : WVe E (mAct i T m ρ st) Q = (ρ[i]? = some (some (.o (.th T))) ∧ WVe E (m st) Q) := by
  unfold mAct
  by_cases h : ρ[i]? = some (some (.o (.th T)))
  · rw [if_pos h]; simp [h]
  · rw [if_neg h]; simp only [h, false_and]; rfl
end
end Cp
/-! Cpt: the end of a law whose defs make lambdas: their tables of code objects. -/
namespace Cp
open PySem L2
abbrev tabA (K : PySem.W.Frag) (p : Str × Str) : Addr := (He.cT K (dfn p.1)).2
abbrev TabsOk (K : PySem.W.Frag) (base : Heap) (mg : Str → Option Value) (tb : List (Str × Str)) : Prop := ∀ p ∈ tb, LamX.TabB base mg (He.cT K (dfn p.1)).1 (He.cT K (dfn p.1)).2
section
open PySem.W PyProof.Rows
variable {P : Program} {w : World} {K : Frag} {mg mb : Str → Option Value} {k : Nat} {fa a : Addr} {fd : FuncData} {x : Str} {sem : Fs} {s0 : Shared} {vs : List Value} {ns : List Int} {tb : List (Str × Str)}
theorem law_coreT (KX : K.In s0.heap) (hns : s0.heap.Ns mainGlobals mg) (hb : s0.heap.Ns builtinsNs mb) (hbb : ∀ y : Str, y ≠ "__name__" → mb y = bootBuiltins y) (hlim : s0.heap.NoLimit) (hg : s0.gens = #[])
    (hT : ∀ p ∈ tb, s0.heap.get? (tabA K p) = some { cls := .none, data := .fields #[] }) (nT : ∀ p ∈ tb, K.lookup (tabA K p) = none) (C : ∀ p ∈ tb, CodeHd s0.heap (He.cT K (dfn p.1)).1 (tabA K p)) (hnd : (tb.map (tabA K)).Nodup)
    (hbm : ∃ (bm : Addr) (ob : Obj), mg "__builtins__" = some (.ref bm) ∧ bm ≠ builtinsNs ∧ s0.heap.get? bm = some ob ∧ ob.cls = .type "module" ∧ ob.dict = some builtinsNs ∧ ob.data = .plain)
    (ha : s0.heap.get? a = some { cls := .type "list", data := .seq vs.toArray }) (hr : Rm k callerA)
    (F : ∀ base : Heap, K.In base → base.Ns mainGlobals mg → TabsOk K base mg tb → FnC P w K mg base k fa fd [x] sem) (hbind : ∀ (s : Shared) (u : Value), BindsTo s fd ⟨[u], []⟩ [(x, u)])
    (FF : Hp) (H : Hp) (hH : ∀ b, H b = if b ∈ tb.map (tabA K) then some (.tbl #[]) else FF b) (hO : Only FF) (hS : SqL K FF a (ns.map V.int)) (hok : HOk P w H s0.heap) (hA : ∀ b, FF b ≠ none → b = a) (hK : FF a ≠ none → K.lookup a = none)
    (hsem : ∃ st, sem [.s ns] (heapC [] :: tb.map fun p => tabC p.1 p.2) = .ok (.d (.bool true)) st) :
    codeAny (model P w) callerA (.call (.ref fa) ⟨[.ref a], []⟩) (fun r s' => r = .ok (.ret (.bool true)) ∧ OldK s0.heap s'.heap ∧ s'.os = s0.os ∧ AllBare s'.gens) s0 := by
  have isT : ∀ b : Addr, b ∈ tb.map (tabA K) → s0.heap.get? b = some { cls := .none, data := .fields #[] } := fun b hb => by
    obtain ⟨p, hp, e⟩ := List.mem_map.mp hb
    rw [← e]; exact hT p hp
  have aT : a ∉ tb.map (tabA K) := fun z => by
    have q := isT a z
    rw [ha] at q
    have z' : Data.seq vs.toArray _ = Data.fields #[] := congrArg Obj.data (Option.some.inj q)
    cases z'
  have atT : ∀ p ∈ tb, H (tabA K p) = some (.tbl #[]) := fun p hp => by
    rw [hH, if_pos (List.mem_map.mpr ⟨p, hp, rfl⟩)]
  have hAH : ∀ b, H b ≠ none → b = a ∨ b ∈ tb.map (tabA K) := fun b hb => by
    by_cases h : b ∈ tb.map (tabA K)
    · exact .inr h
    · rw [hH, if_neg h] at hb; exact .inl (hA b hb)
  have noD : ∀ {b : Addr} {o : Obj}, s0.heap.get? b = some o → (∀ vs n, o.data ≠ .seq vs n) → o.data ≠ .fields #[] → H b = none := fun {b o} e h1 h2 => by
    cases q : H b with
    | none => rfl
    | some u =>
      rcases hAH b (by rw [q]; simp) with e' | e'
      · rw [e', ha] at e; cases e; exact (h1 _ _ rfl).elim
      · rw [isT b e'] at e; cases e; exact (h2 rfl).elim
  have noA : ∀ {b : Addr} {o : Obj} {es : Array DictEntry} {ep : Nat}, s0.heap.get? b = some o → o.data = .dict es ep → H b = none := fun {b o es ep} e d => noD e (fun vs n z => by rw [d] at z; cases z) fun z => by rw [d] at z; cases z
  have same : ∀ {b : Addr} {m : Str → Option Value}, s0.heap.Ns b m → (hidT s0.heap H).Ns b m := fun ⟨o, es, n, e, d, r⟩ => ⟨o, es, n, hidT_get e (noA e d), d, r⟩
  have inB : K.In (hidT s0.heap H) := fun b o e => hidT_get (KX b o e) (by
    cases q : H b with
    | none => rfl
    | some u =>
      rcases hAH b (by rw [q]; simp) with e' | e'
      · subst e'
        rw [hH, if_neg aT] at q
        rw [hK (by rw [q]; exact fun z => by cases z)] at e
        cases e
      · obtain ⟨p, hp, ep⟩ := List.mem_map.mp e'
        rw [← ep, nT p hp] at e
        cases e)
  have M : Mod K mg (hidT s0.heap H) := ⟨inB, same hns, ⟨mb, same hb, hbb⟩, let ⟨mc, h1, h2⟩ := hlim; ⟨mc, same h1, h2⟩⟩
  have TB : TabsOk K (hidT s0.heap H) mg tb := fun p hp => by
    have hTp := hT p hp
    refine ⟨?_, ?_, fun z => ?_⟩
    · obtain ⟨o, us, file, tf, flags, tg, inF, text, tt, e1, r1, r2, r3, r4, r5, r6, r7, r8, hne⟩ := C p hp
      refine ⟨o, us, file, tf, flags, tg, inF, text, tt, hidT_get e1 (noD e1 (fun vs n z => ?_) fun z => ?_), r1, r2, r3, r4, r5, r6, r7, r8, hne⟩
      · rw [r2] at z; cases z
      · rw [r2] at z; cases z; simp at r3
    · obtain ⟨bm, ob, b1, b2, b3, b4, b5, b6⟩ := hbm
      have nG : bm ≠ mainGlobals := fun q => by
        obtain ⟨o, es, ep, e, hd, _⟩ := hns
        rw [q, e] at b3; cases b3; rw [hd] at b6; cases b6
      have nP : bm ≠ tabA K p := fun q => by rw [q, hTp] at b3; cases b3; cases b6
      refine ⟨bm, ob, b1, b2, nG, nP, hidT_get b3 (noD b3 (fun vs n z => ?_) fun z => ?_), b4, b5, b6⟩
      · rw [b6] at z; cases z
      · rw [b6] at z; cases z
    · obtain ⟨o, es, ep, e, hd, _⟩ := hns
      rw [z] at e
      rw [show (He.cT K (dfn p.1)).2 = tabA K p from rfl, hTp] at e
      cases e; cases hd
  have none0 : ∀ b : Addr, b ∉ frs [] := fun b z => by cases z
  have e0 : Env0 P w K mg (hidT s0.heap H) callerA [] s0 H := ⟨rfl, M, fun b o e => of_hidT e, Nat.le_of_eq (hidT_size _ _), trivial, fun b z => absurd z (none0 b), hok, .of_eq hg⟩
  obtain ⟨st, hsem⟩ := hsem
  have FT : ∀ b, b ∈ tb.map (tabA K) → FF b = none := fun b hb => by
    cases q : FF b with
    | none => rfl
    | some u => exact absurd (hA b (by rw [q]; exact fun z => by cases z)) fun e => aT (e ▸ hb)
  have sub : Same FF H := fun b u e => by
    rw [hH, if_neg (fun hb => by rw [FT b hb] at e; cases e)]; exact e
  have sp : spF ⟨K, w⟩ mg sem [.ref a] H (fun v _ => v = .bl true) (fun _ _ _ => False) := by
    refine ⟨[.s ns], heapC [] :: tb.map fun p => tabC p.1 p.2, ⟨a :: tb.map (tabA K), []⟩, FF, .cons ⟨a, rfl, hS⟩ .nil, ⟨by simpa using hnd, by simp, fun i b c z z2 z3 => ?_, sub, fun i c i0 z => ?_, ⟨[], rfl, rfl, fun j x z => by simp at z⟩⟩, ?_⟩
    · cases i with
      | zero => cases z2; cases z3
      | succ i => exact FT b (List.mem_of_getElem? (i := i) z)
    · cases i with
      | zero => exact absurd rfl i0
      | succ i =>
      have z : (tb.map fun p => tabC p.1 p.2)[i]? = some c := z
      show ∃ a_1 o, (tb.map (tabA K))[i]? = some a_1 ∧ H a_1 = some o ∧ ClW _ FF a_1 c o
      rw [List.getElem?_map] at z
      cases q : tb[i]? with
      | none => rw [q] at z; cases z
      | some p =>
        rw [q] at z; cases z
        refine ⟨tabA K p, .tbl #[], by rw [List.getElem?_map, q]; rfl, atT p (List.mem_of_getElem? q), .inl ⟨rfl, fun y r e => ?_⟩⟩
        unfold tabC at e
        injection e with e; injection e with e _; injection e with _ e; injection e with e
        injection e with e1 e2; injection e2 with e2 _; injection e1 with e1; injection e2 with e2
        subst e1 e2
        exact ⟨rfl, #[], rfl, trivial, fun pos cv h => by
          have z : codeAmong pos [] = some cv := h
          simp [codeAmong] at z⟩
    · rw [hsem]
      intro v μ' F' H' o
      cases (show Dq ⟨K, w⟩ F' v (.bool true) from o.rok)
      rfl
  refine codeAny_mono ((F _ inB (same hns) TB).run callerA [] s0 H ⟨[.ref a], []⟩ [.ref a] [.ref a] _ _ hr e0 (hbind s0 (.ref a)) (.cons rfl .nil) sp) fun r s' h => ?_
  cases r with
  | error e =>
    obtain ⟨_, _, _, _, _, _, _, _, _, _, _, _, z⟩ := h
    exact z.elim
  | ok fl =>
    cases fl with
    | ret u =>
      obtain ⟨v, H', os, bare, un, hok', rv, q⟩ := h
      cases (show v = .bl true from q)
      cases (show u = Value.bool true from rv)
      have key : ∀ b o, b ∉ tb.map (tabA K) → s0.heap.get? b = some o → s'.heap.get? b = some o := fun b o nb e => by
        cases q : H b with
        | none => exact un.keep b o e q (none0 b) (by simp)
        | some u =>
          rcases hO b with z | ⟨ob, xs, z⟩
          · rw [hH, if_neg nb, z] at q; cases q
          · have z : H b = some (.frz ob (.lst xs)) := by rw [hH, if_neg nb]; exact z
            obtain ⟨e1, _⟩ := hok b _ z
            obtain ⟨e2, _⟩ := hok' b _ (un.frzs b ob _ z)
            rw [e] at e1; cases e1
            exact e2
      have grown : ∀ p ∈ tb, ∃ more : Array Value, s'.heap.get? (tabA K p) = some { cls := .none, data := .fields more } := fun p hp => by
        obtain ⟨more, z⟩ := un.tbls (tabA K p) #[] (atT p hp)
        exact ⟨_, hok' _ _ z⟩
      refine ⟨rfl, ⟨fun b o e => ?_, fun b o e => ?_⟩, os, bare⟩
      · by_cases hb : b ∈ tb.map (tabA K)
        · obtain ⟨p, hp, ep⟩ := List.mem_map.mp hb
          obtain ⟨more, hm⟩ := grown p hp
          rw [← ep] at e ⊢
          rw [hT p hp] at e; cases e
          exact .inr (.inl ⟨((C p hp).tab (hT p hp)).isCodeTable, rfl, #[], more, rfl, by rw [Array.empty_append]; exact hm⟩)
        · exact .inl (key b o hb e)
      · by_cases hb : b ∈ tb.map (tabA K)
        · obtain ⟨p, hp, ep⟩ := List.mem_map.mp hb
          obtain ⟨more, hm⟩ := grown p hp
          rw [← ep]
          exact ⟨_, hm⟩
        · exact ⟨o, key b o hb e⟩
    | next => exact False.elim h
    | brk => exact False.elim h
    | cont => exact False.elim h
theorem law_anyT (KX : K.In s0.heap) (hns : s0.heap.Ns mainGlobals mg) (hb : s0.heap.Ns builtinsNs mb) (hbb : ∀ y : Str, y ≠ "__name__" → mb y = bootBuiltins y) (hlim : s0.heap.NoLimit) (hg : s0.gens = #[])
    (hT : ∀ p ∈ tb, s0.heap.get? (tabA K p) = some { cls := .none, data := .fields #[] }) (nT : ∀ p ∈ tb, K.lookup (tabA K p) = none) (C : ∀ p ∈ tb, CodeHd s0.heap (He.cT K (dfn p.1)).1 (tabA K p)) (hnd : (tb.map (tabA K)).Nodup)
    (hbm : ∃ (bm : Addr) (ob : Obj), mg "__builtins__" = some (.ref bm) ∧ bm ≠ builtinsNs ∧ s0.heap.get? bm = some ob ∧ ob.cls = .type "module" ∧ ob.dict = some builtinsNs ∧ ob.data = .plain)
    (ha : s0.heap.get? a = some { cls := .type "list", data := .seq vs.toArray }) (hi : IntsAre vs ns) (hl : ns.length ≤ sizeLine) (hr : Rm k callerA)
    (F : ∀ base : Heap, K.In base → base.Ns mainGlobals mg → TabsOk K base mg tb → FnC P w K mg base k fa fd [x] sem) (hbind : ∀ (s : Shared) (u : Value), BindsTo s fd ⟨[u], []⟩ [(x, u)])
    (hsem : ∃ st, sem [.s ns] (heapC [] :: tb.map fun p => tabC p.1 p.2) = .ok (.d (.bool true)) st) :
    codeAny (model P w) callerA (.call (.ref fa) ⟨[.ref a], []⟩) (fun r s' => r = .ok (.ret (.bool true)) ∧ OldK s0.heap s'.heap ∧ s'.os = s0.os ∧ AllBare s'.gens) s0 := by
  have rv := vals_ints hi
  have hl2 : (ns.map V.int).length ≤ sizeLine := by rw [List.length_map]; exact hl
  have isT : ∀ b : Addr, b ∈ tb.map (tabA K) → s0.heap.get? b = some { cls := .none, data := .fields #[] } := fun b hb => by
    obtain ⟨p, hp, e⟩ := List.mem_map.mp hb
    rw [← e]; exact hT p hp
  have go := fun FF => law_coreT (ns := ns) KX hns hb hbb hlim hg hT nT C hnd hbm ha hr F hbind FF (fun b => if b ∈ tb.map (tabA K) then some (.tbl #[]) else FF b) (fun _ => rfl)
  cases hk : K.lookup a with
  | some o =>
    have e := KX a o hk
    rw [ha] at e; cases e
    refine go (fun _ => none) (fun _ => .inl rfl) (.inr ⟨_, vs.toArray, _, hk, rfl, rfl, rfl, by rw [List.size_toArray, ← rv.length]; exact hl2, by simpa using rv⟩) (fun b u z => ?_) (fun b z => absurd rfl z) (fun z => absurd rfl z) hsem
    by_cases hb : b ∈ tb.map (tabA K)
    · have z' := (if_pos hb).symm.trans z; cases z'; exact isT b hb
    · have z' := (if_neg hb).symm.trans z; cases z'
  | none =>
    have at1 : (fun b => if b = a then some (HO.frz { cls := .type "list", data := .seq vs.toArray } (.lst (ns.map V.int))) else none) a = some (HO.frz { cls := .type "list", data := .seq vs.toArray } (.lst (ns.map V.int))) := if_pos rfl
    have at2 : ∀ {b u}, (fun b => if b = a then some (HO.frz { cls := .type "list", data := .seq vs.toArray } (.lst (ns.map V.int))) else none) b = some u → b = a ∧ u = HO.frz { cls := .type "list", data := .seq vs.toArray } (.lst (ns.map V.int)) := fun {b u} z => by
      by_cases h : b = a
      · exact ⟨h, by have z' := (if_pos h).symm.trans z; cases z'; rfl⟩
      · have z' := (if_neg h).symm.trans z; cases z'
    refine go (fun b => if b = a then some (.frz { cls := .type "list", data := .seq vs.toArray } (.lst (ns.map V.int))) else none) (fun b => ?_) (.inl (.inr ⟨_, at1⟩)) (fun b u z => ?_) (fun b z => ?_) (fun _ => hk) hsem
    · by_cases h : b = a
      · exact .inr ⟨_, _, if_pos h⟩
      · exact .inl (if_neg h)
    · by_cases hb : b ∈ tb.map (tabA K)
      · have z' := (if_pos hb).symm.trans z; cases z'; exact isT b hb
      · have z1 := (if_neg hb).symm.trans z
        obtain ⟨rfl, rfl⟩ := at2 z1
        exact ⟨ha, hl2, vs, _, rv, ha⟩
    · by_cases h : b = a
      · exact h
      · exact absurd (if_neg h) z
theorem law_walkT {l : OpenLaw} {n k : Nat} {q : Program} {loose : List Str} {XP : (Str → Option Value) → Heap → Prop} {YP : World → Heap → Prop} {d : DefRec} {x : Str} {sem : Fs} {tb : List (Str × Str)}
    (hn : l.most = some n) (hn2 : n ≤ sizeLine) (hdf : d.params.defaults = []) (hr : Rm k callerA)
    (F : ∀ (w : World) (mg : Str → Option Value) (fa : Addr) (h : Heap), YP w h → h.Ns mainGlobals mg → mg d.name = some (.ref fa) →
      ∃ (K : Frag) (fd : FuncData), K.In h ∧ (∀ p ∈ tb, h.get? (tabA K p) = some { cls := .none, data := .fields #[] }) ∧ (∀ p ∈ tb, K.lookup (tabA K p) = none) ∧ (∀ p ∈ tb, codeHdIn K (He.cT K (dfn p.1)).1 (tabA K p) = true) ∧ (tb.map (tabA K)).Nodup ∧
        (∀ (s : Shared) (u : Value), BindsTo s fd ⟨[u], []⟩ [(x, u)]) ∧ ∀ base : Heap, K.In base → base.Ns mainGlobals mg → TabsOk K base mg tb → FnC l.prog w K mg base k fa fd [x] sem)
    (hsem : ∀ ns : List Int, ns.length ≤ n → ∃ st, sem [.s ns] (heapC [] :: tb.map fun p => tabC p.1 p.2) = .ok (.d (.bool true)) st) : WalkO q loose XP YP l.row.toRowW d [] (fun f vs => PySem.call f vs) := by
  refine Att.attach_callB hn hdf fun w s₀ s₁ mg mb fa o pm cd doc a vs ns G Y ho hd hcd hmg hobj hints hlen hbits hg => ?_
  obtain ⟨K, fd, KX, hT, nT, C, hnd, hb, hF⟩ := F w mg fa _ Y G.T.g hmg
  exact law_anyT KX G.T.g G.T.b G.T.builtins G.T.nolimit hg hT nT (fun p hp => codeHd_of_K KX (C p hp)) hnd G.T.bmain hobj hints (Nat.le_trans hlen hn2) hr hF hb (hsem ns hlen)
end
/-! ### the hook -/
structure SaysL (fb : List Fb) (fn : List He.DefD) (ts : List He.Tab) (tb : List (Str × Str)) (w : World) (h : Heap) (K : PySem.W.Frag) : Prop where
  t : SaysXT fb fn ts w K
  hd : ∀ p ∈ tb, PySem.W.codeHdIn K (He.cT K (dfn p.1)).1 (tabA K p) = true
  out : ∀ p ∈ tb, K.lookup (tabA K p) = none
  empty : ∀ p ∈ tb, h.get? (tabA K p) = some { cls := .none, data := .fields #[] }
  nd : (tb.map (tabA K)).Nodup
abbrev AlL : Type := AlX × Bool
def tabsL (g : Addr → Option Obj) (tb : List (Str × Str)) (K : PySem.W.Frag) : Bool := He.tabsB g (tb.map fun p => (dfn p.1)) K && decide ((tb.map (tabA K)).Nodup)
def obsL (n : Nat) (fb : List Fb) (fn : List He.DefD) (ts : List He.Tab) (tb : List (Str × Str)) (g : Addr → Option Obj) : AlL := (obsXT fb fn ts (He.frT g (sysModules :: He.asD g n)), tabsL g tb (He.frT g (sysModules :: He.asD g n)))
theorem saysL_of {n : Nat} {fb : List Fb} {fn : List He.DefD} {ts : List He.Tab} {tb : List (Str × Str)} {w : World} {h : Heap} (e : obsL n fb fn ts tb h.get? = (valXT fn ts w, true)) : SaysL fb fn ts tb w h (He.frT h.get? (sysModules :: He.asD h.get? n)) := by
  have e1 : obsXT fb fn ts (He.frT h.get? (sysModules :: He.asD h.get? n)) = valXT fn ts w := congrArg (fun z : AlL => z.1) e
  have e2 : tabsL h.get? tb (He.frT h.get? (sysModules :: He.asD h.get? n)) = true := congrArg (fun z : AlL => z.2) e
  obtain ⟨h1, h2⟩ := He.ba e2
  have key : ∀ p ∈ tb, PySem.W.codeHdIn (He.frT h.get? (sysModules :: He.asD h.get? n)) (He.cT (He.frT h.get? (sysModules :: He.asD h.get? n)) (dfn p.1)).1 (tabA (He.frT h.get? (sysModules :: He.asD h.get? n)) p) = true ∧ ∃ o, h.get? (tabA (He.frT h.get? (sysModules :: He.asD h.get? n)) p) = some o ∧ He.emptyTab o = true := fun p hp => by
    obtain ⟨h3, h4⟩ := He.ba (List.all_eq_true.mp h1 (dfn p.1) (List.mem_map.mpr ⟨p, hp, rfl⟩))
    refine ⟨h3, ?_⟩
    cases q : h.get? (tabA (He.frT h.get? (sysModules :: He.asD h.get? n)) p) with
    | none => rw [q] at h4; cases h4
    | some o => rw [q] at h4; exact ⟨o, rfl, h4⟩
  exact ⟨e1, fun p hp => (key p hp).1, fun p hp => by
    obtain ⟨_, o, q, z⟩ := key p hp
    exact He.frT_none q z, fun p hp => by
    obtain ⟨_, o, q, z⟩ := key p hp
    rw [q, He.emptyTab_eq z], of_decide_eq_true h2⟩
def hookL (n : Nat) (fb : List Fb) (fn : List He.DefD) (ts : List He.Tab) (tb : List (Str × Str)) : PySem.W.Hook where
  α := AlL
  obs := fun s => obsL n fb fn ts tb s.heap.get?
  val := fun w => (valXT fn ts w, true)
  says := fun w h => ∃ K : PySem.W.Frag, K.In h ∧ SaysL fb fn ts tb w h K
  of := fun _ _ e => ⟨_, He.frT_in, saysL_of e⟩
  keeps := fun _ _ _ ⟨K, hK, c⟩ k => ⟨K, PySem.W.Frag.In.keeps hK k, ⟨c.t, c.hd, c.out, fun p hp => k _ _ (c.empty p hp), c.nd⟩⟩
/-! ### a def that makes lambdas -/
section
variable {P : Program} {w : World} {K : PySem.W.Frag} {mg : Str → Option Value} {base : Heap} {k : Nat} {x : Str} {N ps : List Str} {sb : Sv} {st : Stmt}
theorem cd_of {f : Addr} {fd : FuncData} (F : FunD K x x (defArgs st) (defBody st) (defScope st) [] [] f fd) (hf : f = He.ga K x) {oc : Value} {od : Option Addr} {osl : Array (Option Value)} (lk : K.lookup f = some ⟨oc, od, .func fd, osl⟩) (hcd : PySem.W.codeIn K fd.code x = true) (hx : dfn x = (x, none)) : fd.code = .ref (He.cT K (dfn x)).1 := by
  rw [hx]
  obtain ⟨c, hc⟩ := He.codeIn_ref hcd
  subst hf
  rw [hc, show (He.cT K (x, none)).1 = He.codeOf K (x, none) from rfl, He.codeOf_eq (p := (x, none)) (c := c) lk hc]
theorem fn_defT {f : Addr} {fd : FuncData} (F : FunD K x x (defArgs st) (defBody st) (defScope st) [] [] f fd) (hf : f = He.ga K x) (S : FnScope N ps (defScope st))
    (body : ∀ (cdv : Value) (f : Addr) (A : Around) (outer : List Env) (s : Shared) (H : Hp) (E : XK), cdv = .ref (He.cT K (dfn x)).1 → Bd k (cxOf (L2.CX P w) P w K mg base N x (defScope st) f cdv A outer s H E) (Cn.ofE ⟨K, w⟩ mg E) →
      PSs (cxOf (L2.CX P w) P w K mg base N x (defScope st) f cdv A outer s H E) (defBody st) (tS (Cn.ofE ⟨K, w⟩ mg E) sb))  (hx : dfn x = (x, none) := by decide +kernel) : FnC P w K mg base (k + 1) f fd ps (bodyF N.length ps.length sb) := by
  obtain ⟨oc, od, dV, kV, doc, pm, an, cdv, ct, osl, rfl, lk, hcd, hD, hK⟩ := id F.ex
  have hc := cd_of F hf lk hcd hx
  have hlen : ∀ vs H Q E, spF ⟨K, w⟩ mg (bodyF N.length ps.length sb) vs H Q E → vs.length = ps.length := fun vs H Q E ⟨args, st, μ, F, a, b, c⟩ => by
    unfold bodyF at c
    by_cases hl : args.length = ps.length
    · rw [← a.length, hl]
    · rw [if_neg hl] at c; exact False.elim c
  rcases hD with ⟨_, rfl⟩ | ⟨e, _⟩
  · exact ⟨hlen, fun A outer s H args us vs Q E hr e0 hbd r hsp => run_of (st := st) lk S hr e0 hbd r hcd hsp fun B => body cdv f A outer s H E hc B⟩
  · exact absurd rfl e
end
end Cp
/-! Cup: x.upper(); a tuple of anything == (), != (). -/
namespace Cp
open PySem L2
section
variable {X : Cx} {C : Cn} {o a b : Expr} {mo ma mb : Ev} {p cpos pos apos : Pos} {k : Nat} {E : Er → Sto → Prop} {ρ : En} {st : Sto} {PE' : Rv → Sto → Prop}
def mUpper (mo : Ev) : Ev := fun ρ st => (mV mo ρ st).bind fun x s => match x with
  | .d (.str y) => if y.length ≤ 5592405 then .ok (.d (.str (Txt.upper y))) s else .no
  | _ => .no
theorem y_upper (ho : PE X o (tM C mo)) (hbase : attributeBase o "upper" X.env (eval o X.env) = eval o X.env := by rfl) (hline : (apos.endLine == pos.line) = true := by rfl) : PE X (.Call (.Attribute o "upper" apos) [] [] pos) (tM C (mUpper mo)) :=
  (pe_upper (pv_frz ho) hbase hline).imp fun σ H Q ⟨ρ, st, μ, F, h1, h2, h3⟩ => ⟨ρ, st, μ, F, h1, h2, Post.bindV gE_lat h3 fun x s v μ1 F1 H1 x1 r1 k1 h4 => by
    split at h4
    · rename_i y
      cases (show Dq C.K F1 v (.str y) from k1)
      by_cases hl : y.length ≤ 5592405
      · rw [if_pos hl] at h4
        exact ⟨⟨y, rfl⟩, y, rfl, rfl, hl, fin_d r1 h4 (.str _)⟩
      · rw [if_neg hl] at h4; exact False.elim h4
    · exact False.elim h4⟩
@[simp] theorem W_mUpper : WVe E (mUpper mo ρ st) PE' = WVe E (mo ρ st) fun r s => match frz r with
    | .d (.str y) => y.length ≤ 5592405 ∧ PE' (.d (.str (Txt.upper y))) s
    | _ => False := by
  unfold mUpper; rw [WV_bind, W_mV]
  congr 1; funext r s
  generalize frz r = v
  cases v with
  | d x =>
    cases x with
    | str y =>
      dsimp only
      by_cases h : y.length ≤ 5592405
      · rw [if_pos h]; simp [h, WVe]
      · rw [if_neg h]; simp [h, WVe]
    | _ => rfl
  | _ => rfl
def rET (K : PySem.W.Frag) : R2 := fun x y H Q => ∃ p q xs, x = .ref p ∧ y = .ref q ∧ SqT K H p xs ∧ SqT K H q [] ∧ Q (.bl xs.isEmpty) H
theorem op_eqT (hu : X.A.units < cLine) : OpR X (compareOp .Eq) (rET X.K) := by
  intro pins s σ H x y v u Q I rx ry h
  obtain ⟨p, q, xs, rfl, rfl, h1, h2, hq⟩ := h
  cases rx
  cases ry
  obtain ⟨its, rv, pl, _⟩ := I.tuple h1
  obtain ⟨its2, rv2, pl2, _⟩ := I.tuple h2
  cases rv2
  refine SeqAt.eq_tupleAt (e := fun _ => true) pl pl2 hu (fun j _ h2 => absurd h2 (by simp)) ⟨.bl xs.isEmpty, H, I, ?_, hq⟩
  cases rv with
  | nil => rfl
  | cons _ _ => rfl
def gET (a b : PyData) : Option Bool := match a, b with
  | .tuple xs, .tuple [] => some xs.isEmpty
  | _, _ => none
theorem gET_ok : CmpOk C (rET C.K) gET := by
  intro a b k v u μ F H st Q s va vb e q
  unfold gET at e
  split at e
  · cases e
    obtain ⟨p, zs, rfl, q1, q2⟩ := va.tup
    obtain ⟨p', zs', rfl, q1', q2'⟩ := vb.tup
    cases q2'
    refine ⟨p, p', zs, rfl, rfl, SqT.rd s.sub q1, SqT.rd s.sub q1', ?_⟩
    cases q2 <;> exact q
  · cases e
theorem opr_or {op : Value → Value → Sem Value} {r r' : R2} (h : OpR X op r) (h' : OpR X op r') : OpR X op (fun x y H Q => r x y H Q ∨ r' x y H Q) := by
  intro pins s σ H x y v u Q I rx ry hh
  rcases hh with hh | hh
  · exact h pins s σ H x y v u Q I rx ry hh
  · exact h' pins s σ H x y v u Q I rx ry hh
def gEqT (a b : PyData) : Option Bool := match gET a b with
  | some z => some z
  | none => gEq a b
theorem t_eqT (B : Bd k X C) (ha : PE X a (tM C ma)) (hb : PE X b (tM C mb)) (hm : behindInMarks .Eq b = false) : PT X (.Compare a [.Eq] [b] pos) (tT C (mCmp gEqT ma mb)) := by
  have h1 := opr_or (op_eqT (X := X) (Nat.lt_of_le_of_lt (Nat.le_add_right _ 64) B.rm.hu)) (op_eqD B.rm.hu)
  rw [← B.hK] at h1
  exact s_cmpT h1 (gET_ok.or gEq_ok) ha hb hm
def rNT (K : PySem.W.Frag) : R2 := fun x y H Q => ∃ p q xs, x = .ref p ∧ y = .ref q ∧ SqT K H p xs ∧ SqT K H q [] ∧ Q (.bl !xs.isEmpty) H
theorem op_neT (hu : X.A.units < cLine) : OpR X (compareOp .NotEq) (rNT X.K) := by
  intro pins s σ H x y v u Q I rx ry h
  obtain ⟨p, q, xs, rfl, rfl, h1, h2, hq⟩ := h
  cases rx
  cases ry
  obtain ⟨its, rv, pl, _⟩ := I.tuple h1
  obtain ⟨its2, rv2, pl2, _⟩ := I.tuple h2
  cases rv2
  refine SeqAt.RcNeAt.tuples (e := fun _ => true) pl pl2 hu (fun j _ h2 => absurd h2 (by simp)) _ _ _ _ ⟨.bl !xs.isEmpty, H, I, ?_, hq⟩
  cases rv with
  | nil => rfl
  | cons _ _ => rfl
def gNT (a b : PyData) : Option Bool := match a, b with
  | .tuple xs, .tuple [] => some (!xs.isEmpty)
  | _, _ => none
theorem gNT_ok : CmpOk C (rNT C.K) gNT := by
  intro a b k v u μ F H st Q s va vb e q
  unfold gNT at e
  split at e
  · cases e
    obtain ⟨p, zs, rfl, q1, q2⟩ := va.tup
    obtain ⟨p', zs', rfl, q1', q2'⟩ := vb.tup
    cases q2'
    refine ⟨p, p', zs, rfl, rfl, SqT.rd s.sub q1, SqT.rd s.sub q1', ?_⟩
    cases q2 <;> exact q
  · cases e
def gNeT (a b : PyData) : Option Bool := match gNT a b with
  | some z => some z
  | none => gNe a b
theorem t_neT (B : Bd k X C) (ha : PE X a (tM C ma)) (hb : PE X b (tM C mb)) (hm : behindInMarks .NotEq b = false) : PT X (.Compare a [.NotEq] [b] pos) (tT C (mCmp gNeT ma mb)) := by
  have h1 := opr_or (op_neT (X := X) (Nat.lt_of_le_of_lt (Nat.le_add_right _ 64) B.rm.hu)) (op_neD B.rm.hu)
  rw [← B.hK] at h1
  exact s_cmpT h1 (gNT_ok.or gNe_ok) ha hb hm
@[simp] theorem gEqT_e (xs : List PyData) : gEqT (.tuple xs) (.tuple []) = some xs.isEmpty := rfl
@[simp] theorem gNeT_e (xs : List PyData) : gNeT (.tuple xs) (.tuple []) = some (!xs.isEmpty) := rfl
/-! ### xs.count(b) of truth values -/
def mCount (mo ma : Ev) : Ev := fun ρ st => (mV mo ρ st).bind fun x s1 => match view s1 x with
  | some (.list _) => (mV ma ρ s1).bind fun y s2 => match view s2 x, y with
    | some (.list ds), .d (.bool c) => (match boolsD ds with
      | some bs => .ok (.d (.int (bs.count c : Nat))) s2
      | none => .no)
    | _, _ => .no
  | _ => .no
@[simp] theorem W_mCount : WVe E (mCount mo ma ρ st) PE' = WVe E (mo ρ st) fun r s1 => match view s1 (frz r) with
    | some (.list _) => WVe E (ma ρ s1) fun r2 s2 => (match view s2 (frz r), frz r2 with
      | some (.list ds), .d (.bool c) => (match boolsD ds with
        | some bs => PE' (.d (.int (bs.count c : Nat))) s2
        | none => False)
      | _, _ => False)
    | _ => False := by
  unfold mCount; rw [WV_bind, W_mV]
  congr 1; funext r s
  cases view s (frz r) with
  | none => rfl
  | some d =>
    cases d with
    | list zs =>
      dsimp only
      rw [WV_bind, W_mV]
      congr 1; funext r2 s2
      generalize frz r2 = z
      cases view s2 (frz r) with
      | none => rfl
      | some dy =>
        cases dy with
        | list ds =>
          cases z with
          | d dd =>
            cases dd with
            | bool c => dsimp only; cases boolsD ds <;> rfl
            | _ => rfl
          | _ => rfl
        | _ => rfl
    | _ => rfl
end
end Cp
/-! Cbo: truth values in reckoning: b + i, b - i, str(b). -/
namespace Cp
open PySem L2
section
variable {X : Cx} {C : Cn} {a b : Expr} {ma mb : Ev} {mas : En → Sto → Res (List Vl)} {p pos : Pos} {E : Er → Sto → Prop} {ρ : En} {st : Sto}
def b2i (b : Bool) : Int := if b = true then 1 else 0
def rBI (g : Int → Int → Int) : R2 := fun x y H Q => ∃ (b : Bool) (j : Int), x = .bl b ∧ y = .int j ∧ Q (.int (g (b2i b) j)) H
theorem op_addB : OpR X (binaryOp .Add) (rBI fun i j => i + j) := by
  intro pins s σ H x y v u Q I rx ry h
  obtain ⟨b, j, rfl, rfl, q⟩ := h
  cases rx
  obtain ⟨t, rfl⟩ := ry
  exact PySem.IntBool.add_bool_int ⟨.int (b2i b + j), H, I.tok _, ⟨_, rfl⟩, q⟩
theorem op_subB : OpR X (binaryOp .Sub) (rBI fun i j => i - j) := by
  intro pins s σ H x y v u Q I rx ry h
  obtain ⟨b, j, rfl, rfl, q⟩ := h
  cases rx
  obtain ⟨t, rfl⟩ := ry
  exact PySem.IntBool.sub_bool_int ⟨.int (b2i b - j), H, I.tok _, ⟨_, rfl⟩, q⟩
def fBI (g : Int → Int → Int) : PyData → PyData → Option Rv
  | .bool b, .int j => some (.d (.int (g (b2i b) j)))
  | _, _ => none
theorem fBI_ok {g : Int → Int → Int} : BinOk C (rBI g) (fBI g) := by
  intro a b res v u μ F H st Q s va vb e q
  unfold fBI at e
  split at e
  · cases e
    exact ⟨_, _, va.bl, vb.int, fin_d s q (.int _)⟩
  · cases e
/-- + and - of whole numbers and truth values -/
def fAddB (a b : PyData) : Option Rv := match fI (fun _ _ => true) (fun i j => i + j) a b with
  | some z => some z
  | none => fBI (fun i j => i + j) a b
def fSubB (a b : PyData) : Option Rv := match fI (fun _ _ => true) (fun i j => i - j) a b with
  | some z => some z
  | none => fBI (fun i j => i - j) a b
theorem s_addB (ha : PE X a (tM C ma)) (hb : PE X b (tM C mb)) : PE X (.BinOp a .Add b pos) (tM C (mBin fAddB ma mb)) := s_bin (op_add.or op_addB) (fI0_ok.or fBI_ok) ha hb
theorem s_subB (ha : PE X a (tM C ma)) (hb : PE X b (tM C mb)) : PE X (.BinOp a .Sub b pos) (tM C (mBin fSubB ma mb)) := s_bin (op_sub.or op_subB) (fI0_ok.or fBI_ok) ha hb
@[simp] theorem fAddB_i (i j : Int) : fAddB (.int i) (.int j) = some (.d (.int (i + j))) := rfl
@[simp] theorem fAddB_b (b : Bool) (j : Int) : fAddB (.bool b) (.int j) = some (.d (.int (b2i b + j))) := rfl
@[simp] theorem fSubB_i (i j : Int) : fSubB (.int i) (.int j) = some (.d (.int (i - j))) := rfl
@[simp] theorem fSubB_b (b : Bool) (j : Int) : fSubB (.bool b) (.int j) = some (.d (.int (b2i b - j))) := rfl
/-- i - x, x a whole number or a truth value -/
def rIB (g : Int → Int → Int) : R2 := fun x y H Q => ∃ (i : Int) (b : Bool), x = .int i ∧ y = .bl b ∧ Q (.int (g i (b2i b))) H
theorem op_subI : OpR X (binaryOp .Sub) (rIB fun i j => i - j) := by
  intro pins s σ H x y v u Q I rx ry h
  obtain ⟨i, b, rfl, rfl, q⟩ := h
  obtain ⟨t, rfl⟩ := rx
  cases ry
  exact PySem.IntBool.sub_int_bool ⟨.int (i - b2i b), H, I.tok _, ⟨_, rfl⟩, q⟩
def fIB (g : Int → Int → Int) : PyData → PyData → Option Rv
  | .int i, .bool b => some (.d (.int (g i (b2i b))))
  | _, _ => none
theorem fIB_ok {g : Int → Int → Int} : BinOk C (rIB g) (fIB g) := by
  intro a b res v u μ F H st Q s va vb e q
  unfold fIB at e
  split at e
  · cases e
    exact ⟨_, _, va.int, vb.bl, fin_d s q (.int _)⟩
  · cases e
def fSubR (a b : PyData) : Option Rv := match fI (fun _ _ => true) (fun i j => i - j) a b with
  | some z => some z
  | none => fIB (fun i j => i - j) a b
theorem s_subR (ha : PE X a (tM C ma)) (hb : PE X b (tM C mb)) : PE X (.BinOp a .Sub b pos) (tM C (mBin fSubR ma mb)) := s_bin (op_sub.or op_subI) (fI0_ok.or fIB_ok) ha hb
@[simp] theorem fSubR_i (i j : Int) : fSubR (.int i) (.int j) = some (.d (.int (i - j))) := rfl
@[simp] theorem fSubR_b (i : Int) (b : Bool) : fSubR (.int i) (.bool b) = some (.d (.int (i - b2i b))) := rfl
def bTx (b : Bool) : Str := if b = true then Str.ofString "True" else Str.ofString "False"
def rStrB : List V → Hp → VK → Prop := fun xs H Q => (∃ i, xs = [.int i] ∧ i.natAbs.log2 < 1920 ∧ Q (.str (toString i)) H) ∨ ∃ b, xs = [.bl b] ∧ Q (.str (bTx b)) H
theorem call_strB : CallR X (.type "str") rStrB := by
  intro pins s σ H xs us Q I r h
  rcases h with ⟨i, rfl, hz, q⟩ | ⟨b, rfl, q⟩
  · exact call_str_int pins s σ H _ us Q I r ⟨i, rfl, hz, q⟩
  · obtain ⟨u, rfl, r1⟩ := vals1 r
    cases r1
    exact PySem.P.str_of_bool ⟨.str (bTx b), H, I.tok _, ⟨_, by cases b <;> rfl⟩, q⟩
def fStrB : PyData → Option Rv
  | .int i => if i.natAbs.log2 < 1920 then some (.d (.str (toString i))) else none
  | .bool b => some (.d (.str (bTx b)))
  | _ => none
theorem fStrB_ok : CallOk C rStrB (g1 fStrB) := g1_ok fun d res v μ F H st Q s w e p => by
  cases d with
  | int i =>
    simp only [fStrB] at e
    split at e
    · cases e; exact .inl ⟨i, by rw [w.int], by assumption, fin_d s p (.str _)⟩
    · cases e
  | bool b => cases e; exact .inr ⟨b, by rw [w.bl], fin_d s p (.str _)⟩
  | _ => cases e
theorem k_strB (hg : Gl X "str") (hm : X.mg "str" = none) (ha : PA X [a] (tAs C mas)) (he : starEach [a] X.env = (false, eval a X.env) :: starEach [] X.env := by rfl) (hpl : NA X [] pos := by rfl) : PE X (.Call (.Name "str" p) [a] [] pos) (tM C (mCal (g1 fStrB) mas)) :=
  s_callTy call_strB fStrB_ok hg hm (by decide +kernel) ha (by decide) (by decide) he hpl
@[simp] theorem fStrB_i (i : Int) : fStrB (.int i) = if i.natAbs.log2 < 1920 then some (.d (.str (txI i))) else none := rfl
@[simp] theorem fStrB_b (b : Bool) : fStrB (.bool b) = some (.d (.str (bTx b))) := rfl
end
end Cp
/-! Cid: data of any depth in a list of data. -/
namespace Cp
open PySem L2
section
variable {X : Cx} {C : Cn} {a b : Expr} {ma mb : Ev} {pos : Pos} {k : Nat}
def gInL (neg : Bool) (a b : PyData) : Option Bool := match b with
  | .list ds => if SeqAt.shaped a && SeqAt.shaped (.list ds) then some (if neg then !ds.any fun z => PyData.eqv z a else ds.any fun z => PyData.eqv z a) else none
  | _ => none
theorem gInL_ok {K : PySem.W.Frag} : CmpOk C (rInD K) (gInL false) := by
  intro a b k v u μ F H st Q s va vb e q
  unfold gInL at e
  split at e
  · split at e
    · rename_i hh
      rw [Bool.and_eq_true] at hh
      cases e
      exact ⟨a, _, (va.dq s.sub).dp (SeqAt.canLay_of_shaped hh.1), (vb.dq s.sub).dp (SeqAt.canLay_of_shaped hh.2), hh.1, hh.2, q⟩
    · cases e
  · cases e
theorem gInL_no {K : PySem.W.Frag} : CmpOk C (rNotInD K) (gInL true) := by
  intro a b k v u μ F H st Q s va vb e q
  unfold gInL at e
  split at e
  · split at e
    · rename_i hh
      rw [Bool.and_eq_true] at hh
      cases e
      exact ⟨a, _, (va.dq s.sub).dp (SeqAt.canLay_of_shaped hh.1), (vb.dq s.sub).dp (SeqAt.canLay_of_shaped hh.2), hh.1, hh.2, q⟩
    · cases e
  · cases e
theorem t_inL (B : Bd k X C) (ha : PE X a (tM C ma)) (hb : PE X b (tM C mb)) (hm : behindInMarks .In b = false) : PT X (.Compare a [.In] [b] pos) (tT C (mCmp (gInL false) ma mb)) := by
  have h1 := op_inD (X := X) (by have := B.rm.room.un; omega)
  exact s_cmpT h1 gInL_ok ha hb hm
theorem t_notInL (B : Bd k X C) (ha : PE X a (tM C ma)) (hb : PE X b (tM C mb)) (hm : behindInMarks .NotIn b = false) : PT X (.Compare a [.NotIn] [b] pos) (tT C (mCmp (gInL true) ma mb)) := by
  have h1 := op_notInD (X := X) (by have := B.rm.room.un; omega)
  exact s_cmpT h1 gInL_no ha hb hm
end
end Cp
/-! Cst: len(set(a list of texts)). -/
namespace Cp
open PySem L2 PySem.Spec PyProof.Rows
/-- the texts, each once, in the order they are met -/
def onceS (xs : List Str) : List Str := xs.foldl (fun σ v => if σ.any (· == v) then σ else σ ++ [v]) []
theorem onceS_snoc (xs : List Str) (v : Str) : onceS (xs ++ [v]) = if (onceS xs).any (· == v) then onceS xs else onceS xs ++ [v] := by
  unfold onceS
  rw [List.foldl_append]
  rfl
theorem onceS_take {xs : List Str} {i : Nat} (h : i < xs.length) : onceS (xs.take (i + 1)) = if (onceS (xs.take i)).any (· == xs.getD i Str.empty) then onceS (xs.take i) else onceS (xs.take i) ++ [xs.getD i Str.empty] := by
  rw [List.take_succ_eq_append_getElem h, onceS_snoc]
  have : xs.getD i Str.empty = xs[i] := by simp [List.getD, h]
  rw [this]
theorem once_any (L : List Str) (x k : Str) : (L.any (· == k) || decide (k = x)) = (if L.any (· == x) then L else L ++ [x]).any (· == k) := by
  by_cases c : L.any (· == x) = true
  · rw [if_pos c]
    by_cases e : k = x
    · rw [e, c]; simp
    · simp [e]
  · rw [if_neg c, List.any_append]
    congr 1
    by_cases e : k = x
    · subst e; simp
    · have hb : (x == k) = false := by simpa [beq_iff_eq] using (fun h' : x = k => e h'.symm)
      simp [hb, e]
theorem once_len (L : List Str) (x : Str) : (if L.any (· == x) then L else L ++ [x]).length = if L.any (· == x) then L.length else L.length + 1 := by
  split <;> simp
theorem onceS_le (xs : List Str) : ∀ i, (onceS (xs.take i)).length ≤ i
  | 0 => by simp [onceS]
  | i + 1 => by
    have ih := onceS_le xs i
    by_cases h : i < xs.length
    · rw [onceS_take h]
      split
      · omega
      · rw [List.length_append]; simp; omega
    · rw [List.take_of_length_le (by omega)]
      rw [List.take_of_length_le (by omega)] at ih
      omega
section
variable {prog : Program} {w : World} {A : Around} {R : Result → Shared → Prop} {I : Addr} {fp wr : List Addr} {G : Array GenState → Array GenState → Prop} {n : Nat} {P : Nat → Value → Prop} {St : Nat → Shared → Prop}
theorem loopStrs (W : WalksS prog w A.in1 I fp wr G n P St) (S : Addr) (hSf : S ∉ fp) (xs : List Str) (hsz : xs.length = n) (hb : n + 1 < scanBound)
    (hval : ∀ i v, P i v → ∃ t, v = .str (xs.getD i Str.empty) t) :
    ∀ (k i : Nat) (s : Shared), n - i = k → i ≤ n → St i s →
      s.heap.SetOf (PySem.strKind prog w) S (fun k' => (onceS (xs.take i)).any (· == k')) (onceS (xs.take i)).length →
      (∀ s', Moved (S :: wr) G s s' → s'.heap.SetOf (PySem.strKind prog w) S (fun k' => (onceS xs).any (· == k')) (onceS xs).length → R (.ok (.ret .none)) s') →
      codeAny (model prog w) A (.builtin "set.update.loop" ⟨[.ref S, .ref I], []⟩) R s := by
  have hSw : S ∉ wr := fun h => hSf (W.sub _ h)
  have hsub : ∀ b ∈ wr, b ∈ S :: wr := fun b hb => List.mem_cons_of_mem _ hb
  intro k
  induction k with
  | zero =>
    intro i s hk hi hst hS hR
    have hin : i = n := by omega
    subst hin
    refine codeAny_builtin PyProof.Rows.F.entry_set_update_loop ?_
    rw [Around.under_plainId PyProof.Rows.F.plain_set_update_loop _]
    show wpAny _ A.in1 (pyNext (.ref I) >>= _) _ _ s
    refine wpAny_bind (W.done s _ _ hst fun s' hm => ?_)
    show wpAny _ A.in1 (ret Value.none) _ _ s'
    rw [List.take_of_length_le (by omega)] at hS
    exact wpAny_pure (hR s' (hm.mono hsub) (by
      obtain ⟨o, es, ep, t, ho, rest⟩ := hS
      exact ⟨o, es, ep, t, hm.heap S _ hSw ho, rest⟩))
  | succ k ih =>
    intro i s hk hi hst hS hR
    have hlt : i < n := by omega
    refine codeAny_builtin PyProof.Rows.F.entry_set_update_loop ?_
    rw [Around.under_plainId PyProof.Rows.F.plain_set_update_loop _]
    show wpAny _ A.in1 (pyNext (.ref I) >>= _) _ _ s
    refine wpAny_bind (W.item i s _ _ hlt hst fun v s' hP hst' hm => ?_)
    obtain ⟨t, rfl⟩ := hval i v hP
    have hS' : s'.heap.SetOf (PySem.strKind prog w) S (fun k' => (onceS (xs.take i)).any (· == k')) (onceS (xs.take i)).length := by
      obtain ⟨o, es, ep, tb, ho, rest⟩ := hS
      exact ⟨o, es, ep, tb, hm.heap S _ hSw ho, rest⟩
    show wpAny _ A.in1 (holding [Value.str (xs.getD i Str.empty) t] (setAdd S (.str (xs.getD i Str.empty) t)) >>= _) _ _ s'
    refine wpAny_bind (wpAny_holding ?_)
    unfold setAdd
    refine wpAny_holding ?_
    refine wpAny_bind ((PySem.strKind prog w).pyHash (k := xs.getD i Str.empty) (strKind_is _ _ _ _) ?_)
    have hroom : (onceS (xs.take i)).length + 1 < scanBound := by have := onceS_le xs i; omega
    refine wpAny_setAddHashed_of (knd := PySem.strKind prog w) (s := { s' with toks := s'.toks + 1 }) (strKind_is _ _ _ _) rfl hS' hroom fun h' hsb hS2 => ?_
    have hSi : h'.SetOf (PySem.strKind prog w) S (fun k' => (onceS (xs.take (i + 1))).any (· == k')) (onceS (xs.take (i + 1))).length := by
      refine SetOf_congr hS2 (fun k' => ?_) ?_
      · rw [onceS_take (by omega)]; exact once_any _ _ _
      · rw [onceS_take (by omega)]; exact (once_len _ _).symm
    refine wpAny_pure ⟨plainId_quiet PyProof.Rows.F.plain_set_update_loop _, ih (i + 1) _ (by omega) hlt (W.frame _ s' _ _ hst' (Nat.le_succ _) fun b hb o e => ?_) hSi fun s'' hm'' hS'' => ?_⟩
    · rw [hsb.2 b (fun h : b = S => hSf (by rw [← h]; exact hb))]; exact e
    · refine hR s'' (Moved.trans W.gtrans ((hm.mono hsub).then_heap (Nat.le_succ _) fun b o hb e => ?_) hm'') hS''
      rw [hsb.2 b (fun h : b = S => hb (by rw [h]; exact List.mem_cons_self))]; exact e
end
section
variable {prog : Program} {w : World} {A : Around} {E : Value → Shared → Prop} {s : Shared}
set_option maxHeartbeats 3200000 in
theorem call_set_strs {l : Addr} {items : Array Value} {xs : List Str} {Q : Value → Shared → Prop}
    (hh : A.handled = none) (hl : s.heap.IsList l items) (hi : PyProof.Rows.StrsAre items.toList xs) (hn1 : xs.length + 1 < scanBound)
    (h : ∀ (h' : Heap) (tk : Nat), h'.SetOf (PySem.strKind prog w) s.heap.objs.size (fun k' => (onceS xs).any (· == k')) (onceS xs).length →
      (∀ b o, b < s.heap.objs.size → s.heap.get? b = some o → h'.get? b = some o) → Q (.ref s.heap.objs.size) { s with heap := h', toks := tk }) :
    wpAny (model prog w) A (call (.type "set") [.ref l]) Q E s := by
  obtain ⟨c, tl, hmro⟩ := PySem.F.called_set.mro
  have hmade := PySem.F.called_set.made
  have hsub := PySem.F.called_set.sub
  refine wpAny_call (codeAny_of_tree ?_)
  show wpAny _ _ (callAny (.type "set") _) _ _ _
  refine wpAny_pure ⟨Code.quiet_builtin _ (by decide +kernel), codeAny_builtin PySem.F.entry_type_call ?_⟩
  rw [Around.under_plain (weight_type_call_type "set" [.ref l] []) rfl]
  have h1 := PySem.F.called_set.notType
  have h2 := PySem.F.called_set.canCreate
  have hct := PySem.F.typeCall_set_1 (.ref l)
  repeat (any_goals (first | assumption | wp_step))

  refine codeAny_mono (code_set_new_1 (.ref l) (E := E) (Q₁ := fun obj s₁ => ∃ led : Bool, obj = .ref s.heap.objs.size ∧ s₁ = { s with heap := s.heap.push { cls := .type "set", dict := none, data := .set #[] 0 (.fresh 0 0 led) } }) fun led => ⟨led, rfl, rfl⟩) fun r s₁ hr => ?_
  cases r with
  | error e => exact hr
  | ok fl =>
    cases fl with
    | ret obj =>
      obtain ⟨led, rfl, rfl⟩ := hr
      have hS : (s.heap.push { cls := .type "set", dict := none, data := .set #[] 0 (.fresh 0 0 led) }).get? s.heap.objs.size = some { cls := .type "set", dict := none, data := .set #[] 0 (.fresh 0 0 led) } := Heap.get?_push_size _ rfl
      have hT : Shared.TypeIs { s with heap := s.heap.push { cls := .type "set", dict := none, data := .set #[] 0 (.fresh 0 0 led) } } (.ref s.heap.objs.size) "set" := ⟨_, hS, rfl⟩
      have hli := PySem.F.called_set.init.lookup
      have hbi := PySem.F.called_set.init.bind (.ref s.heap.objs.size)
      repeat (any_goals (first | assumption | wp_step))

      refine codeAny_mono (codeAny_call_builtin (R := wants (fun r s₂ => r = .none ∧ ∃ h' tk, s₂ = { s with heap := h', toks := tk } ∧
          h'.SetOf (PySem.strKind prog w) s.heap.objs.size (fun k' => (onceS xs).any (· == k')) (onceS xs).length ∧
          (∀ b o, b < s.heap.objs.size → s.heap.get? b = some o → h'.get? b = some o)) E) PySem.F.called_set.init.plain PySem.F.entry_set_init (check_set_init_1 hT ?_)) fun r₂ s₂ hr₂ => ?_
      · obtain ⟨ol, hol, hcl, nl, hdl⟩ := hl
        obtain ⟨ocls, odict, odata, oslots⟩ := ol
        simp only at hcl hdl
        subst hcl; subst hdl
        have hol' : (s.heap.push { cls := .type "set", dict := none, data := .set #[] 0 (.fresh 0 0 led) }).get? l = some { cls := .type "list", dict := odict, data := .seq items nl, slots := oslots } := Heap.get?_push_of_some _ hol
        have hsls := PySem.F.sub_list_set
        have hslf := PySem.F.sub_list_frozenset
        have hne : (Value.type "list" == Value.type "dict") = false := by decide
        have hl1 : (s.heap.push { cls := .type "set", dict := none, data := .set #[] 0 (.fresh 0 0 led) }).IsList l items := ⟨_, hol', rfl, nl, rfl⟩
        unfold Builtin.«set.__init__» noKeywords Builtin.Frozenset.updateFrom
        generalize hPI : pyIter = PI
        wp_walk
        subst hPI

        refine wpAny_pyIter_list hl1 ?_
        refine wpAny_bind (wpAny_runValue ?_)
        have hlS : l < s.heap.objs.size := Heap.lt_size hol
        have hh3 : A.in1.in1.in1.handled = none := by simp [hh]
        have hneI : l ≠ (s.heap.push { cls := .type "set", dict := none, data := .set #[] 0 (.fresh 0 0 led) }).objs.size := by
          rw [Heap.size_push]; exact Nat.ne_of_lt (Nat.lt_succ_of_lt hlS)
        have hSf : s.heap.objs.size ∉ [(s.heap.push { cls := .type "set", dict := none, data := .set #[] 0 (.fresh 0 0 led) }).objs.size, l] := by
          rw [Heap.size_push]; simp only [List.mem_cons, List.mem_singleton, List.not_mem_nil, or_false, not_or]
          exact ⟨Nat.ne_of_lt (Nat.lt_succ_self _), Nat.ne_of_gt hlS⟩
        have hsz : xs.length = items.size := by rw [← StrsAre.len_eq hi, Array.length_toList]
        have hval : ∀ (i : Nat) (v : Value), items[i]? = some v → ∃ t, v = .str (xs.getD i Str.empty) t := fun i v hv => SS.strs_at hi i v (by rw [Array.getElem?_toList]; exact hv)
        refine loopStrs ((Walks.list hh3 _ l hneI items).toS) s.heap.objs.size
          hSf xs hsz (by rw [← hsz]; exact hn1) (fun i v hv => hval i v hv) (items.size - 0) 0 _ (by omega) (Nat.zero_le _)
          ⟨⟨_, Heap.get?_push_size _ rfl, rfl, rfl⟩, (hl1.push _)⟩ ?hS0 ?hR
        case hS0 =>
          have hget : ((s.heap.push { cls := .type "set", dict := none, data := .set #[] 0 (.fresh 0 0 led) }).push { cls := .type "list_iterator", data := .fields #[.ref l, .int 0 0] }).get? s.heap.objs.size
              = some { cls := .type "set", dict := none, data := .set #[] 0 (.fresh 0 0 led) } := Heap.get?_push_of_some _ hS
          exact PyProof.Rows.SetOf_congr ((PyProof.Rows.setObjOf_fresh (knd := PySem.strKind prog w) led).setOf hget (by unfold scanBound; omega)) (fun _ => rfl) rfl
        case hR =>
          intro s' hm hS'
          obtain ⟨h', g', d', tk', os'⟩ := s'
          have eg : g' = s.gens := hm.gens
          have ed : d' = s.drawn := hm.drawn
          have eo : os' = s.os := hm.os
          subst eg; subst ed; subst eo
          show wpAny _ _ _ _ _ _
          refine wpAny_pure ?_
          show wpAny _ _ (ret Value.none) _ _ _
          refine wpAny_pure ⟨rfl, h', tk', rfl, hS', fun b o hb e => ?_⟩
          have hb1 : b ≠ s.heap.objs.size := Nat.ne_of_lt hb
          have hb2 : b ≠ (s.heap.push { cls := .type "set", dict := none, data := .set #[] 0 (.fresh 0 0 led) }).objs.size := by
            rw [Heap.size_push]; exact Nat.ne_of_lt (Nat.lt_succ_of_lt hb)
          exact hm.heap b o (by simp only [List.mem_cons, List.mem_singleton, List.not_mem_nil, or_false, not_or]; exact ⟨hb1, hb2⟩) (Heap.get?_push_of_some _ (Heap.get?_push_of_some _ e))

      · cases r₂ with
        | error e => exact hr₂
        | ok fl₂ =>
          cases fl₂ with
          | ret r =>
            obtain ⟨rfl, h', tk, rfl, hS', hk'⟩ := hr₂
            repeat (any_goals (first | assumption | wp_step))
            exact h _ _ hS' hk'
          | _ => exact hr₂.elim
    | _ => exact hr.elim
end
section
variable {X : Cx} {C : Cn} {k : Nat} {e : Expr} {p p2 q pos : Pos} {m : Ev}
def rLoS (K : PySem.W.Frag) : V → Hp → VK → Prop := fun x H Q => ∃ (a : Addr) (xs : List Str), x = .ref a ∧ SqL K H a (xs.map V.str) ∧ xs.length ≤ 60 ∧ Q (.int ((onceS xs).length : Nat)) H
theorem pe_los {te : TE} (hc : X.calm = true) (hg : Gl X "len") (hm : X.mg "len" = none) (hg2 : Gl X "set") (hm2 : X.mg "set" = none) (ha : PE X e te)
    (na : starEach [e] X.env = (false, eval e X.env) :: starEach [] X.env := by rfl) : PE X (.Call (.Name "len" p) [.Call (.Name "set" p2) [e] [] q] [] pos) (fun σ H Q => te σ H fun x H1 => rLoS X.K x H1 Q) := by
  refine ⟨fun pins s σ H Q I h => ?_⟩
  refine Call_ (ld_blt I hg hm boot_len (callWith_builtin1 (args_cons ?_ rfl) rfl rfl))
  refine Call_ (ld_blt I hg2 hm2 boot_set (callWith_type1 (args_cons (thn (ha.run pins s σ H _ I h) fun v s1 ⟨x, H1, I1, r1, q1⟩ => args_nil ?_) na) na rfl))
  obtain ⟨a, xs, rfl, hq, hn, q1⟩ := q1
  cases r1
  obtain ⟨its, r, pl, _⟩ := I1.list hq
  refine call_set_strs (xs := xs) (I1.ok.hd hc) pl.isList (by simpa using Vals.strs r) (by unfold scanBound; omega) fun h' tk hS hk => args_nil ?_
  obtain ⟨o, es, ep, tb, ho, ex, dd, _, _, hsb, hf, hn2⟩ := hS
  have hk' : ∀ b u, s1.heap.get? b = some u → h'.get? b = some u := fun b u e => hk b u (Heap.lt_size e) e
  have hes : es.size < scanBound := hsb
  unfold scanBound at hes
  refine call_len_set (s := { s1 with heap := h', toks := tk }) ho ex dd hf (by omega) ?_
  rw [← hn2] at q1
  exact ⟨.int _, H1, I1.kept hk', ⟨_, rfl⟩, q1⟩
def strsE : List PyData → Option (List Str)
  | [] => some []
  | .str x :: ds => (strsE ds).map (x :: ·)
  | _ => none
theorem strsE_ok {K : Kw} {F : Hp} : ∀ {xs : List V} {ds : List PyData} {ss : List Str}, DqAll K F xs ds → strsE ds = some ss → xs = ss.map V.str
  | _, _, _, .nil, h => by cases h; rfl
  | x :: xs, d :: ds, ss, .cons h1 h2, h => by
    cases d with
    | str y =>
      cases h1
      cases e : strsE ds with
      | none => rw [strsE, e] at h; cases h
      | some ts => rw [strsE, e] at h; cases h; rw [strsE_ok h2 e]; rfl
    | _ => cases h
theorem strsE_map (xs : List Str) : strsE (xs.map PyData.str) = some xs := by
  induction xs with
  | nil => rfl
  | cons x xs ih => rw [List.map_cons, strsE, ih]; rfl
def setL (d : PyData) : Option Rv := match d with
  | .list ds => match strsE ds with
    | some xs => if xs.length ≤ 60 then some (.d (.int ((onceS xs).length : Nat))) else none
    | none => none
  | _ => none
def mLoS (m : Ev) : Ev := fun ρ st => (mV m ρ st).bind fun x s => match (view s x).bind setL with
  | some r => .ok r s
  | none => .no
theorem k_los (B : Bd k X C) (hg : Gl X "len") (hm : X.mg "len" = none) (hg2 : Gl X "set") (hm2 : X.mg "set" = none) (ha : PE X e (tM C m)) (na : starEach [e] X.env = (false, eval e X.env) :: starEach [] X.env := by rfl) :
    PE X (.Call (.Name "len" p) [.Call (.Name "set" p2) [e] [] q] [] pos) (tM C (mLoS m)) :=
  (pe_los B.cm hg hm hg2 hm2 (pv_frz ha) na).imp fun σ H Q ⟨ρ, st, μ, F, h1, h2, h3⟩ => ⟨ρ, st, μ, F, h1, h2, Post.bindV gE_lat h3 fun x s v μ1 F1 H1 x1 r1 k1 h4 => by
    cases q1 : view s x with
    | none => simp only [q1, Option.bind] at h4; exact False.elim h4
    | some d =>
      have w := view_ok r1 k1 q1
      simp only [q1, Option.bind] at h4
      unfold setL at h4
      cases d with
      | list ds =>
        simp only [] at h4
        cases q2 : strsE ds with
        | none => simp only [q2] at h4; exact False.elim h4
        | some ns =>
          simp only [q2] at h4
          by_cases hn : ns.length ≤ 60
          · simp only [hn, if_true] at h4
            obtain ⟨a, xs, rfl, w1, w2⟩ := w
            exact ⟨a, ns, rfl, SqL.of (by rw [← strsE_ok w2 q2]; exact w1), hn, fin_d r1 h4 (.int _)⟩
          · simp only [hn, if_false] at h4; exact False.elim h4
      | _ => exact False.elim h4⟩
@[simp] theorem W_mLoS {ρ : En} {st : Sto} {E : Er → Sto → Prop} {P : Rv → Sto → Prop} : WVe E (mLoS m ρ st) P = WVe E (m ρ st) fun r s => WO ((view s (frz r)).bind setL) fun r => P r s := by
  unfold mLoS; rw [WV_bind, W_mV]
  congr 1; funext r s
  cases (view s (frz r)).bind setL <;> rfl
end
end Cp
/-! Cul: a list of anything != []. -/
namespace Cp
open PySem L2
section
variable {X : Cx} {C : Cn} {o a b : Expr} {mo ma mb : Ev} {p cpos pos apos : Pos} {k : Nat} {E : Er → Sto → Prop} {ρ : En} {st : Sto} {PE' : Rv → Sto → Prop}
def rNL (K : PySem.W.Frag) : R2 := fun x y H Q => ∃ p q xs, x = .ref p ∧ y = .ref q ∧ SqL K H p xs ∧ SqL K H q [] ∧ Q (.bl !xs.isEmpty) H
theorem isL {h : Heap} {a : Addr} {its : Array Value} (p : PlainL h a its) : h.IsList a its :=
  let ⟨o, n, e, c, _, d⟩ := p; ⟨o, e, c, n, d⟩
theorem op_neL (hu : X.A.units < cLine) : OpR X (compareOp .NotEq) (rNL X.K) := by
  intro pins s σ H x y v u Q I rx ry h
  obtain ⟨p, q, xs, rfl, rfl, h1, h2, hq⟩ := h
  cases rx
  cases ry
  obtain ⟨its, rv, pl, _⟩ := I.list h1
  obtain ⟨its2, rv2, pl2, _⟩ := I.list h2
  cases rv2
  cases rv with
  | nil =>
    exact SeqAt.RcNeAt.lists (e := fun _ => true) (isL pl) (isL pl2) rfl hu (fun j h1 _ => absurd h1 (by simp)) _ _ _ _ ⟨.bl false, H, I, rfl, hq⟩
  | cons _ _ => exact SeqAt.RcNeAt.lists_lengths (isL pl) (isL pl2) (by simp) hu _ _ _ _ ⟨.bl true, H, I, rfl, hq⟩
def gNL (a b : PyData) : Option Bool := match a, b with
  | .list xs, .list [] => some (!xs.isEmpty)
  | _, _ => none
theorem gNL_ok : CmpOk C (rNL C.K) gNL := by
  intro a b k v u μ F H st Q s va vb e q
  unfold gNL at e
  split at e
  · cases e
    obtain ⟨p, zs, rfl, q1, q2⟩ := va
    obtain ⟨p', zs', rfl, q1', q2'⟩ := vb
    cases q2'
    refine ⟨p, p', zs, rfl, rfl, SqL.of q1, SqL.of q1', ?_⟩
    cases q2 <;> exact q
  · cases e
def gNeL (a b : PyData) : Option Bool := match gNL a b with
  | some z => some z
  | none => gNe a b
theorem t_neL (B : Bd k X C) (ha : PE X a (tM C ma)) (hb : PE X b (tM C mb)) (hm : behindInMarks .NotEq b = false) : PT X (.Compare a [.NotEq] [b] pos) (tT C (mCmp gNeL ma mb)) := by
  have h1 := opr_or (op_neL (X := X) (Nat.lt_of_le_of_lt (Nat.le_add_right _ 64) B.rm.hu)) (op_neD B.rm.hu)
  rw [← B.hK] at h1
  exact s_cmpT h1 (gNL_ok.or gNe_ok) ha hb hm
@[simp] theorem gNeL_e (xs : List PyData) : gNeL (.list xs) (.list []) = some (!xs.isEmpty) := rfl
end
end Cp
/-! Chl: the head's own look over all objects by their numbers, for a law with lambdas (hookL of Cpt). -/
namespace Cp
open PySem PySem.W L2
def obsLs (as : List Addr) (fb : List Fb) (fn : List He.DefD) (ts : List He.Tab) (tb : List (Str × Str)) (g : Addr → Option Obj) : AlL := (obsXT fb fn ts (He.frT g as), tabsL g tb (He.frT g as))
theorem saysLs_of {as : List Addr} {fb : List Fb} {fn : List He.DefD} {ts : List He.Tab} {tb : List (Str × Str)} {w : World} {h : Heap} (e : obsLs as fb fn ts tb h.get? = (valXT fn ts w, true)) : SaysL fb fn ts tb w h (He.frT h.get? as) := by
  have e1 : obsXT fb fn ts (He.frT h.get? as) = valXT fn ts w := congrArg (fun z : AlL => z.1) e
  have e2 : tabsL h.get? tb (He.frT h.get? as) = true := congrArg (fun z : AlL => z.2) e
  obtain ⟨h1, h2⟩ := He.ba e2
  have key : ∀ p ∈ tb, PySem.W.codeHdIn (He.frT h.get? as) (He.cT (He.frT h.get? as) (dfn p.1)).1 (tabA (He.frT h.get? as) p) = true ∧ ∃ o, h.get? (tabA (He.frT h.get? as) p) = some o ∧ He.emptyTab o = true := fun p hp => by
    obtain ⟨h3, h4⟩ := He.ba (List.all_eq_true.mp h1 (dfn p.1) (List.mem_map.mpr ⟨p, hp, rfl⟩))
    refine ⟨h3, ?_⟩
    cases q : h.get? (tabA (He.frT h.get? as) p) with
    | none => rw [q] at h4; cases h4
    | some o => rw [q] at h4; exact ⟨o, rfl, h4⟩
  exact ⟨e1, fun p hp => (key p hp).1, fun p hp => by
    obtain ⟨_, o, q, z⟩ := key p hp
    exact He.frT_none q z, fun p hp => by
    obtain ⟨_, o, q, z⟩ := key p hp
    rw [q, He.emptyTab_eq z], of_decide_eq_true h2⟩
def hookRL (N : Nat) (fb : List Fb) (fn : List He.DefD) (ts : List He.Tab) (tb : List (Str × Str)) : PySem.W.Hook where
  α := AlL
  obs := fun s => obsLs (sysModules :: mainGlobals :: (List.range' 90 N ++ List.range 90)) fb fn ts tb s.heap.get?
  val := fun w => (valXT fn ts w, true)
  says := fun w h => ∃ K : PySem.W.Frag, K.In h ∧ SaysL fb fn ts tb w h K
  of := fun _ _ e => ⟨_, He.frT_in, saysLs_of e⟩
  keeps := fun _ _ _ ⟨K, hK, c⟩ k => ⟨K, PySem.W.Frag.In.keeps hK k, ⟨c.t, c.hd, c.out, fun p hp => k _ _ (c.empty p hp), c.nd⟩⟩
end Cp
namespace K04
open PySem PySem.Spec PyProof.Rows L2 Cp
def top (i : Nat) : Stmt := PySem.Challenge.pw_callpolicy_k04_parts_and_numbers_replace.main.body.getD i (.Pass ⟨0, 0, 0, 0⟩)
abbrev st_is_label : Stmt := top 23
abbrev st_is_number : Stmt := top 24
abbrev st_is_span : Stmt := top 25
abbrev st_is_call : Stmt := top 26
abbrev st_has_number : Stmt := top 27
abbrev st_has_form : Stmt := top 28
abbrev st_inner : Stmt := top 29
abbrev st_is_policy : Stmt := top 30
abbrev st_is_index : Stmt := top 31
abbrev st_check_part : Stmt := top 32
abbrev st_part_at : Stmt := top 33
abbrev st_with_inner : Stmt := top 34
abbrev st_put_at : Stmt := top 35
abbrev st_check_policy : Stmt := top 36
abbrev st_replaced : Stmt := top 37
abbrev st_with_number : Stmt := top 38
abbrev st__law_urn : Stmt := top 40
abbrev st__law_next : Stmt := top 41
abbrev st__law_of : Stmt := top 42
abbrev st__law_span : Stmt := top 43
abbrev st__law_call : Stmt := top 44
abbrev st__law_label : Stmt := top 45
abbrev st__law_policy : Stmt := top 46
abbrev st__law_grown : Stmt := top 47
abbrev st__law_inner : Stmt := top 48
abbrev st__law_all_paths : Stmt := top 49
abbrev st__law_part : Stmt := top 50
abbrev st__law_put : Stmt := top 51
abbrev st__law_bent : Stmt := top 52
abbrev st__law_is_count : Stmt := top 53
abbrev st__law_is_mark : Stmt := top 54
abbrev st__law_is_stretch : Stmt := top 55
abbrev st__law_has_form : Stmt := top 56
abbrev st__law_is_plan : Stmt := top 57
abbrev st__law_caught : Stmt := top 58
abbrev st__law_due : Stmt := top 59
abbrev st_law : Stmt := top 60
section
variable {P : Program} {w : World} {K : PySem.W.Frag} {mg : Str → Option Value} {base : Heap}
noncomputable def sb_is_label : Sv := (sRet (eAnd (mIsi "str" (mN 0)) (eAnd (bV (mChn (gI fun i j => decide (i ≤ j)) (gI fun i j => decide (i ≤ j)) (mK (.int 1)) (mCal (gLen) (aCons (mV (mN 0)) aNil)) (mK (.int 8)))) (mCal (g1 fAll) (aCons (mV (mLc (iOf (mN 0)) (gNm 1) ttY (bV (mCmp (gInS false) (mN 1) (mK (.str "abcdefghijklmnopqrstuvwxyz0123456789")))) [1])) aNil)))))
noncomputable def sem_is_label : Fs := bodyF 2 1 sb_is_label
theorem kn_is_label (D : Df K mg "is_label" st_is_label) (m_all : mg "all" = none) (m_isinstance : mg "isinstance" = none) (m_len : mg "len" = none) (m_str : mg "str" = none) (c_LONGEST_LABEL : ∃ t, mg "LONGEST_LABEL" = some (.int 8 t)) (c_SIGNS : ∃ t, mg "SIGNS" = some (.str "abcdefghijklmnopqrstuvwxyz0123456789" t)) : Kn P w K mg base "is_label" 1 sem_is_label :=
  kn_def (k := 0) (N := ["value", "sign"]) (ps := ["value"]) (sb := sb_is_label) D ⟨rfl, rfl, rfl, by decide +kernel, rfl, by decide +kernel, by decide +kernel⟩ (fun _ _ _ _ _ _ us hl => match us, hl with | [_], _ => rfl) (fun cdv f A outer s H E B =>
    (x_one (x_ret (s_and (s_isi (by rfl) m_isinstance (s_name (pv 0)) (by rfl) m_str (by decide +kernel)) (s_and (s_chn op_le op_le gI_ok gI_ok s_int (k_len B (by rfl) m_len (a_cons (s_name (pv 0)) a_nil)) (s_gi (by rfl) c_LONGEST_LABEL)) (s_one (k_all B (by rfl) m_all (a_cons (s_lc (own := [("sign", 1)]) B.cm B.nd (i_seq (s_name (pv 0))) (show BlkOk ["value", "sign"] (defScope st_is_label) _ _ from ⟨rfl, by decide +kernel, by decide +kernel, by decide +kernel, by decide +kernel⟩) (fun s1 H1 A1 cl1 fp1 => (t_name (pg_name (i := 1) (B.blk s1 H1 _ _ fp1).nd rfl (by first | exact .inl rfl | exact .inr rfl)))) (fun s1 H1 A1 cl1 fp1 => pts_yes) (fun s1 H1 A1 cl1 fp1 => (v_sIn (s_name (pv 1)) (s_gs (by rfl) c_SIGNS) rfl)) (by decide)) a_nil))))))))
noncomputable def sb_is_number : Sv := (sRet (eAnd (mIsi "int" (mN 0)) (eAnd (eNot (mIsi "bool" (mN 0))) (bV (mChn (gI fun i j => decide (i ≤ j)) (gI fun i j => decide (i ≤ j)) (mK (.int 0)) (mN 0) (mK (.int 1000000000)))))))
noncomputable def sem_is_number : Fs := bodyF 1 1 sb_is_number
theorem kn_is_number (D : Df K mg "is_number" st_is_number) (m_bool : mg "bool" = none) (m_int : mg "int" = none) (m_isinstance : mg "isinstance" = none) (c_GREATEST_NUMBER : ∃ t, mg "GREATEST_NUMBER" = some (.int 1000000000 t)) : Kn P w K mg base "is_number" 1 sem_is_number :=
  kn_def (k := 0) (N := ["value"]) (ps := ["value"]) (sb := sb_is_number) D ⟨rfl, rfl, rfl, by decide +kernel, rfl, by decide +kernel, by decide +kernel⟩ (fun _ _ _ _ _ _ us hl => match us, hl with | [_], _ => rfl) (fun cdv f A outer s H E B =>
    (x_one (x_ret (s_and (s_isi (by rfl) m_isinstance (s_name (pv 0)) (by rfl) m_int (by decide +kernel)) (s_and (s_not (s_isi (by rfl) m_isinstance (s_name (pv 0)) (by rfl) m_bool (by decide +kernel))) (s_one (s_chn op_le op_le gI_ok gI_ok s_int (s_name (pv 0)) (s_gi (by rfl) c_GREATEST_NUMBER))))))))
noncomputable def sb_inner : Sv := (sSeq (sIf (mCmp (gIn false) (mBin fIx (mN 0) (mK (.int 0))) (mTup (aCons (mV (mK (.str "call"))) (aCons (mV (mK (.str "wait"))) aNil)))) (sRet (mTup aNil)) sNil) (sRet (eIf (mCmp (gIn false) (mBin fIx (mN 0) (mK (.int 0))) (mTup (aCons (mV (mK (.str "then"))) (aCons (mV (mK (.str "both"))) aNil)))) (mSl (mN 0) (oSome (mK (.int 1))) oNone) (mSl (mN 0) (oSome (mK (.int 2))) oNone))))
noncomputable def sem_inner : Fs := bodyF 1 1 sb_inner
theorem kn_inner (D : Df K mg "inner" st_inner) (c_BOTH : ∃ t, mg "BOTH" = some (.str "both" t)) (c_CALL : ∃ t, mg "CALL" = some (.str "call" t)) (c_THEN : ∃ t, mg "THEN" = some (.str "then" t)) (c_WAIT : ∃ t, mg "WAIT" = some (.str "wait" t)) : Kn P w K mg base "inner" 1 sem_inner :=
  kn_def (k := 0) (N := ["policy"]) (ps := ["policy"]) (sb := sb_inner) D ⟨rfl, rfl, rfl, by decide +kernel, rfl, by decide +kernel, by decide +kernel⟩ (fun _ _ _ _ _ _ us hl => match us, hl with | [_], _ => rfl) (fun cdv f A outer s H E B =>
    (x_cons (x_if (t_in (s_ix (s_name (pv 0)) s_int (fun _ _ => rfl)) (s_tup (a_cons (s_gs (by rfl) c_CALL) (a_cons (s_gs (by rfl) c_WAIT) a_nil))) rfl) (x_one (x_ret (s_tup a_nil))) x_nil) (x_one (x_ret (s_ifE (t_in (s_ix (s_name (pv 0)) s_int (fun _ _ => rfl)) (s_tup (a_cons (s_gs (by rfl) c_THEN) (a_cons (s_gs (by rfl) c_BOTH) a_nil))) rfl) (s_sl (s_name (pv 0)) (o_some s_int) o_none) (s_sl (s_name (pv 0)) (o_some s_int) o_none))))))
noncomputable def sb_is_index : Sv := (sRet (eAnd (mIsi "int" (mN 0)) (eAnd (eNot (mIsi "bool" (mN 0))) (bV (mChn (gI fun i j => decide (i ≤ j)) (gI fun i j => decide (i < j)) (mK (.int 0)) (mN 0) (mN 1))))))
noncomputable def sem_is_index : Fs := bodyF 2 2 sb_is_index
theorem kn_is_index (D : Df K mg "is_index" st_is_index) (m_bool : mg "bool" = none) (m_int : mg "int" = none) (m_isinstance : mg "isinstance" = none) : Kn P w K mg base "is_index" 1 sem_is_index :=
  kn_def (k := 0) (N := ["value", "count"]) (ps := ["value", "count"]) (sb := sb_is_index) D ⟨rfl, rfl, rfl, by decide +kernel, rfl, by decide +kernel, by decide +kernel⟩ (fun _ _ _ _ _ _ us hl => match us, hl with | [_, _], _ => rfl) (fun cdv f A outer s H E B =>
    (x_one (x_ret (s_and (s_isi (by rfl) m_isinstance (s_name (pv 0)) (by rfl) m_int (by decide +kernel)) (s_and (s_not (s_isi (by rfl) m_isinstance (s_name (pv 0)) (by rfl) m_bool (by decide +kernel))) (s_one (s_chn op_le op_lt gI_ok gI_ok s_int (s_name (pv 0)) (s_name (pv 1)))))))))
noncomputable def sb_with_inner : Sv := (sRet (mBin fAdd (mSl (mN 0) oNone (oSome (mBin (fI (fun _ _ => true) fun i j => i - j) (mCal (gLen) (aCons (mV (mN 0)) aNil)) (mCal (gLen) (aCons (mV (mN 1)) aNil))))) (mCal (g1 fTuple) (aCons (mV (mN 1)) aNil))))
noncomputable def sem_with_inner : Fs := bodyF 2 2 sb_with_inner
theorem kn_with_inner (D : Df K mg "with_inner" st_with_inner) (m_len : mg "len" = none) (m_tuple : mg "tuple" = none) : Kn P w K mg base "with_inner" 1 sem_with_inner :=
  kn_def (k := 0) (N := ["policy", "parts"]) (ps := ["policy", "parts"]) (sb := sb_with_inner) D ⟨rfl, rfl, rfl, by decide +kernel, rfl, by decide +kernel, by decide +kernel⟩ (fun _ _ _ _ _ _ us hl => match us, hl with | [_, _], _ => rfl) (fun cdv f A outer s H E B =>
    (x_one (x_ret (s_add (s_sl (s_name (pv 0)) o_none (o_some (s_sub (k_len B (by rfl) m_len (a_cons (s_name (pv 0)) a_nil)) (k_len B (by rfl) m_len (a_cons (s_name (pv 1)) a_nil))))) (k_tuple (by rfl) m_tuple (a_cons (s_name (pv 1)) a_nil))))))
noncomputable def sb__law_urn : Sv := (sSeq (sAsg (gNm 2) (mV (mBin fAdd (mBin fMulA (mK (.int 13)) (mN 1)) (mK (.int 5))))) (sSeq (sIf (mCmp (gI fun i j => decide (i < j)) (mN 1) (mCal (gLen) (aCons (mV (mN 0)) aNil))) (sAsg (gNm 2) (mV (mSix (mN 0) (mN 1)))) sNil) (sSeq (sAsg (gNm 3) (mV (mBin fMulA (mBin (fI pPos fun i j => i % j) (mCal (g1 fAbs) (aCons (mV (mN 2)) aNil)) (mBin (fI pPow fun i j => i ^ j.toNat) (mBin (fI pPow fun i j => i ^ j.toNat) (mK (.int 10)) (mK (.int 60))) (mK (.int 5)))) (mCal (g1 fInt) (aCons (mV (bV (mCmp (gI fun i j => decide (j ≤ i)) (mCal (g1 fAbs) (aCons (mV (mN 2)) aNil)) (mBin (fI pPow fun i j => i ^ j.toNat) (mK (.int 10)) (mK (.int 18)))))) aNil))))) (sRet (mLst (aCons (mV (mN 3)) (aCons (mV (mBin (fI pPos fun i j => i % j) (mBin fAdd (mBin fAdd (mBin fMulA (mBin (fI pPos fun i j => i % j) (mN 2) (mK (.int 2305843009213693951))) (mK (.int 69859))) (mBin fMulA (mBin fMulA (mK (.int 5003)) (mN 1)) (mN 1))) (mK (.int 83))) (mK (.int 2305843009213693907)))) (aCons (mV (mK (.int 0))) aNil))))))))
noncomputable def sem__law_urn : Fs := bodyF 4 2 sb__law_urn
theorem kn__law_urn (D : Df K mg "_law_urn" st__law_urn) (m_abs : mg "abs" = none) (m_int : mg "int" = none) (m_len : mg "len" = none) : Kn P w K mg base "_law_urn" 1 sem__law_urn :=
  kn_def (k := 0) (N := ["_law_script", "_law_k", "_law_cell", "_law_own"]) (ps := ["_law_script", "_law_k"]) (sb := sb__law_urn) D ⟨rfl, rfl, rfl, by decide +kernel, rfl, by decide +kernel, by decide +kernel⟩ (fun _ _ _ _ _ _ us hl => match us, hl with | [_, _], _ => rfl) (fun cdv f A outer s H E B =>
    (x_cons (x_asg (pv_frz (s_add (s_mulA s_int (s_name (pv 1))) s_int)) (t_name (pg_name (i := 2) B.nd rfl (by first | exact .inl rfl | exact .inr rfl)))) (x_cons (x_if (t_lt (s_name (pv 1)) (k_len B (by rfl) m_len (a_cons (s_name (pv 0)) a_nil))) (x_one (x_asg (pv_frz (s_six B.hK (s_name (pv 0)) (s_name (pv 1)) (fun _ _ => rfl))) (t_name (pg_name (i := 2) B.nd rfl (by first | exact .inl rfl | exact .inr rfl))))) x_nil) (x_cons (x_asg (pv_frz (s_mulA (s_mod (k_abs (by rfl) m_abs (a_cons (s_name (pv 2)) a_nil)) (s_pow (s_pow s_int s_int) s_int)) (k_int (by rfl) m_int (a_cons (v_ge (k_abs (by rfl) m_abs (a_cons (s_name (pv 2)) a_nil)) (s_pow s_int s_int)) a_nil)))) (t_name (pg_name (i := 3) B.nd rfl (by first | exact .inl rfl | exact .inr rfl)))) (x_one (x_ret (s_lst (a_cons (s_name (pv 3)) (a_cons (s_mod (s_add (s_add (s_mulA (s_mod (s_name (pv 2)) s_int) s_int) (s_mulA (s_mulA s_int (s_name (pv 1))) (s_name (pv 1)))) s_int) s_int) (a_cons s_int a_nil))))))))))
noncomputable def sb__law_next : Sv := (sSeq (sIf (mCmp (gI fun i j => decide (j < i)) (mBin fIx (mN 0) (mK (.int 0))) (mK (.int 0))) (sSeq (sAsg (gNm 2) (mV (mBin (fI pPos fun i j => i % j) (mBin fIx (mN 0) (mK (.int 0))) (mN 1)))) (sSeq (sAsg (gPl (mN 0) (mK (.int 0))) (mV (mBin (fI pDiv fun i j => i / j) (mBin fIx (mN 0) (mK (.int 0))) (mN 1)))) (sRet (mN 2)))) sNil) (sSeq (sAsg (gPl (mN 0) (mK (.int 2))) (mV (mBin fAdd (mBin fIx (mN 0) (mK (.int 2))) (mK (.int 1))))) (sSeq (sAsg (gNm 3) (mV (mBin (fI pPos fun i j => i % j) (mBin fMulA (mBin fAdd (mBin fAdd (mBin fIx (mN 0) (mK (.int 1))) (mBin fMulA (mBin fMulA (mK (.int 30011)) (mBin fIx (mN 0) (mK (.int 2)))) (mBin fIx (mN 0) (mK (.int 2))))) (mK (.int 19))) (mK (.int 69877))) (mK (.int 2305843009213693921))))) (sSeq (sAsg (gNm 3) (mV (mBin (fI pPos fun i j => i % j) (mBin fMulA (mN 3) (mBin fAdd (mBin fAdd (mBin (fI pPos fun i j => i % j) (mN 3) (mK (.int 1000039))) (mBin fMulA (mK (.int 60013)) (mBin fIx (mN 0) (mK (.int 2))))) (mK (.int 5)))) (mK (.int 2305843009213693951))))) (sRet (mBin (fI pPos fun i j => i % j) (mBin fAdd (mBin (fI pDiv fun i j => i / j) (mN 3) (mK (.int 103))) (mBin (fI pDiv fun i j => i / j) (mN 3) (mK (.int 999979)))) (mN 1)))))))
noncomputable def sem__law_next : Fs := bodyF 4 2 sb__law_next
theorem kn__law_next (D : Df K mg "_law_next" st__law_next) : Kn P w K mg base "_law_next" 1 sem__law_next :=
  kn_def (k := 0) (N := ["_law_urn_here", "_law_below", "_law_digit", "_law_blend"]) (ps := ["_law_urn_here", "_law_below"]) (sb := sb__law_next) D ⟨rfl, rfl, rfl, by decide +kernel, rfl, by decide +kernel, by decide +kernel⟩ (fun _ _ _ _ _ _ us hl => match us, hl with | [_, _], _ => rfl) (fun cdv f A outer s H E B =>
    (x_cons (x_if (t_gt (s_ix (s_name (pv 0)) s_int (fun _ _ => rfl)) s_int) (x_cons (x_asg (pv_frz (s_mod (s_ix (s_name (pv 0)) s_int (fun _ _ => rfl)) (s_name (pv 1)))) (t_name (pg_name (i := 2) B.nd rfl (by first | exact .inl rfl | exact .inr rfl)))) (x_cons (x_asg (pv_frz (s_fdiv (s_ix (s_name (pv 0)) s_int (fun _ _ => rfl)) (s_name (pv 1)))) (t_pl (s_name (pv 0)) s_int)) (x_one (x_ret (s_name (pv 2)))))) x_nil) (x_cons (x_asg (pv_frz (s_add (s_ix (s_name (pv 0)) s_int (fun _ _ => rfl)) s_int)) (t_pl (s_name (pv 0)) s_int)) (x_cons (x_asg (pv_frz (s_mod (s_mulA (s_add (s_add (s_ix (s_name (pv 0)) s_int (fun _ _ => rfl)) (s_mulA (s_mulA s_int (s_ix (s_name (pv 0)) s_int (fun _ _ => rfl))) (s_ix (s_name (pv 0)) s_int (fun _ _ => rfl)))) s_int) s_int) s_int)) (t_name (pg_name (i := 3) B.nd rfl (by first | exact .inl rfl | exact .inr rfl)))) (x_cons (x_asg (pv_frz (s_mod (s_mulA (s_name (pv 3)) (s_add (s_add (s_mod (s_name (pv 3)) s_int) (s_mulA s_int (s_ix (s_name (pv 0)) s_int (fun _ _ => rfl)))) s_int)) s_int)) (t_name (pg_name (i := 3) B.nd rfl (by first | exact .inl rfl | exact .inr rfl)))) (x_one (x_ret (s_mod (s_add (s_fdiv (s_name (pv 3)) s_int) (s_fdiv (s_name (pv 3)) s_int)) (s_name (pv 1))))))))))
noncomputable def sb__law_label : Sv := (sSeq (sAsg (gPl (mN 0) (mK (.int 1))) (mV (mBin fAdd (mBin fIx (mN 0) (mK (.int 1))) (mK (.int 1))))) (sRet (mBin fAdd (mBin fAdd (mBin fIx (mN 0) (mK (.int 2))) (mBin fIx (mK (.str "abcdefghijklmnopqrstuvwxyz0123456789xyz0")) (mBin (fI (fun _ _ => true) fun i j => i - j) (mBin fIx (mN 0) (mK (.int 1))) (mK (.int 1))))) (mBin fMulA (mK (.str "q")) (mCal (g1 fInt) (aCons (mV (bV (mCmp (gI fun i j => decide (j < i)) (mBin fIx (mN 0) (mK (.int 1))) (mK (.int 36))))) aNil))))))
noncomputable def sem__law_label : Fs := bodyF 1 1 sb__law_label
theorem kn__law_label (D : Df K mg "_law_label" st__law_label) (m_int : mg "int" = none) : Kn P w K mg base "_law_label" 1 sem__law_label :=
  kn_def (k := 0) (N := ["_law_left"]) (ps := ["_law_left"]) (sb := sb__law_label) D ⟨rfl, rfl, rfl, by decide +kernel, rfl, by decide +kernel, by decide +kernel⟩ (fun _ _ _ _ _ _ us hl => match us, hl with | [_], _ => rfl) (fun cdv f A outer s H E B =>
    (x_cons (x_asg (pv_frz (s_add (s_ix (s_name (pv 0)) s_int (fun _ _ => rfl)) s_int)) (t_pl (s_name (pv 0)) s_int)) (x_one (x_ret (s_add (s_add (s_ix (s_name (pv 0)) s_int (fun _ _ => rfl)) (s_ix s_str (s_sub (s_ix (s_name (pv 0)) s_int (fun _ _ => rfl)) s_int) (fun _ _ => rfl))) (s_mulA s_str (k_int (by rfl) m_int (a_cons (v_gt (s_ix (s_name (pv 0)) s_int (fun _ _ => rfl)) s_int) a_nil))))))))
noncomputable def sb__law_inner : Sv := (sRet (mDGet2 (mDct [((mK (.str "call")), (mTup aNil)), ((mK (.str "wait")), (mTup aNil)), ((mK (.str "retry")), (mSl (mN 0) (oSome (mK (.int 2))) oNone)), ((mK (.str "timeout")), (mSl (mN 0) (oSome (mK (.int 2))) oNone))]) (mBin fIx (mN 0) (mK (.int 0))) (mSl (mN 0) (oSome (mNeg (mK (.int 2)))) oNone)))
noncomputable def sem__law_inner : Fs := bodyF 1 1 sb__law_inner
theorem kn__law_inner (D : Df K mg "_law_inner" st__law_inner) : Kn P w K mg base "_law_inner" 1 sem__law_inner :=
  kn_def (k := 0) (N := ["_law_policy_here"]) (ps := ["_law_policy_here"]) (sb := sb__law_inner) D ⟨rfl, rfl, rfl, by decide +kernel, rfl, by decide +kernel, by decide +kernel⟩ (fun _ _ _ _ _ _ us hl => match us, hl with | [_], _ => rfl) (fun cdv f A outer s H E B =>
    (x_one (x_ret (y_dget2 B.rm.hu (s_dct (pps_cons (pv_frz s_str) (pv_frz (s_tup a_nil)) (pps_cons (pv_frz s_str) (pv_frz (s_tup a_nil)) (pps_cons (pv_frz s_str) (pv_frz (s_sl (s_name (pv 0)) (o_some s_int) o_none)) (pps_cons (pv_frz s_str) (pv_frz (s_sl (s_name (pv 0)) (o_some s_int) o_none)) pps_nil)))) rfl rfl (by simp) (by decide)) (s_ix (s_name (pv 0)) s_int (fun _ _ => rfl)) (s_sl (s_name (pv 0)) (o_some (s_neg s_int)) o_none) ⟨by rfl, by rfl, by rfl, by rfl⟩))))
noncomputable def sb__law_is_count : Sv := (sRet (eAnd (mIsi "int" (mN 0)) (eAnd (eNot (mIsi "bool" (mN 0))) (bV (mChn (gI fun i j => decide (i ≤ j)) (gI fun i j => decide (i ≤ j)) (mK (.int 0)) (mN 0) (mN 1))))))
noncomputable def sem__law_is_count : Fs := bodyF 2 2 sb__law_is_count
theorem kn__law_is_count (D : Df K mg "_law_is_count" st__law_is_count) (m_bool : mg "bool" = none) (m_int : mg "int" = none) (m_isinstance : mg "isinstance" = none) : Kn P w K mg base "_law_is_count" 1 sem__law_is_count :=
  kn_def (k := 0) (N := ["_law_value", "_law_most"]) (ps := ["_law_value", "_law_most"]) (sb := sb__law_is_count) D ⟨rfl, rfl, rfl, by decide +kernel, rfl, by decide +kernel, by decide +kernel⟩ (fun _ _ _ _ _ _ us hl => match us, hl with | [_, _], _ => rfl) (fun cdv f A outer s H E B =>
    (x_one (x_ret (s_and (s_isi (by rfl) m_isinstance (s_name (pv 0)) (by rfl) m_int (by decide +kernel)) (s_and (s_not (s_isi (by rfl) m_isinstance (s_name (pv 0)) (by rfl) m_bool (by decide +kernel))) (s_one (s_chn op_le op_le gI_ok gI_ok s_int (s_name (pv 0)) (s_name (pv 1)))))))))
noncomputable def sb__law_is_mark : Sv := (sSeq (sAsg (gNm 1) (mV (mK (.str "abcdefghijklmnopqrstuvwxyz0123456789")))) (sRet (eAnd (mIsi "str" (mN 0)) (eAnd (bV (mChn (gI fun i j => decide (i < j)) (gI fun i j => decide (i < j)) (mK (.int 0)) (mCal (gLen) (aCons (mV (mN 0)) aNil)) (mK (.int 9)))) (mCal (g1 fAll) (aCons (mV (mLc (iOf (mN 0)) (gNm 2) ttY (bV (mCmp (gInS false) (mN 2) (mN 1))) [2])) aNil))))))
noncomputable def sem__law_is_mark : Fs := bodyF 3 1 sb__law_is_mark
theorem kn__law_is_mark (D : Df K mg "_law_is_mark" st__law_is_mark) (m_all : mg "all" = none) (m_isinstance : mg "isinstance" = none) (m_len : mg "len" = none) (m_str : mg "str" = none) : Kn P w K mg base "_law_is_mark" 1 sem__law_is_mark :=
  kn_def (k := 0) (N := ["_law_value", "_law_signs", "_law_sign"]) (ps := ["_law_value"]) (sb := sb__law_is_mark) D ⟨rfl, rfl, rfl, by decide +kernel, rfl, by decide +kernel, by decide +kernel⟩ (fun _ _ _ _ _ _ us hl => match us, hl with | [_], _ => rfl) (fun cdv f A outer s H E B =>
    (x_cons (x_asg (pv_frz s_str) (t_name (pg_name (i := 1) B.nd rfl (by first | exact .inl rfl | exact .inr rfl)))) (x_one (x_ret (s_and (s_isi (by rfl) m_isinstance (s_name (pv 0)) (by rfl) m_str (by decide +kernel)) (s_and (s_chn op_lt op_lt gI_ok gI_ok s_int (k_len B (by rfl) m_len (a_cons (s_name (pv 0)) a_nil)) s_int) (s_one (k_all B (by rfl) m_all (a_cons (s_lc (own := [("_law_sign", 2)]) B.cm B.nd (i_seq (s_name (pv 0))) (show BlkOk ["_law_value", "_law_signs", "_law_sign"] (defScope st__law_is_mark) _ _ from ⟨rfl, by decide +kernel, by decide +kernel, by decide +kernel, by decide +kernel⟩) (fun s1 H1 A1 cl1 fp1 => (t_name (pg_name (i := 2) (B.blk s1 H1 _ _ fp1).nd rfl (by first | exact .inl rfl | exact .inr rfl)))) (fun s1 H1 A1 cl1 fp1 => pts_yes) (fun s1 H1 A1 cl1 fp1 => (v_sIn (s_name (pv 2)) (s_name (pv 1)) rfl)) (by decide)) a_nil)))))))))
noncomputable def sb_is_span : Sv := (sSeq (sIf (bOr (bNot (mTru (mIsi "tuple" (mN 0)))) (bOr (mCmp gNe (mCal (gLen) (aCons (mV (mN 0)) aNil)) (mK (.int 2))) (bNot (mTru (mCal (g1 fAll) (aCons (mV (mLc (iOf (mN 0)) (gNm 1) ttY (mCall sem_is_number (aCons (mV (mN 1)) aNil)) [1])) aNil)))))) (sRet (mK (.bool false))) sNil) (sRet (bV (mCmp (gI fun i j => decide (i ≤ j)) (mBin fIx (mN 0) (mK (.int 0))) (mBin fIx (mN 0) (mK (.int 1)))))))
noncomputable def sem_is_span : Fs := bodyF 2 1 sb_is_span
theorem kn_is_span (D : Df K mg "is_span" st_is_span) (G_is_number : Kn P w K mg base "is_number" 1 sem_is_number) (m_all : mg "all" = none) (m_isinstance : mg "isinstance" = none) (m_len : mg "len" = none) (m_tuple : mg "tuple" = none) (c_SPAN_PARTS : ∃ t, mg "SPAN_PARTS" = some (.int 2 t)) : Kn P w K mg base "is_span" 2 sem_is_span :=
  kn_def (k := 1) (N := ["value", "end"]) (ps := ["value"]) (sb := sb_is_span) D ⟨rfl, rfl, rfl, by decide +kernel, rfl, by decide +kernel, by decide +kernel⟩ (fun _ _ _ _ _ _ us hl => match us, hl with | [_], _ => rfl) (fun cdv f A outer s H E B =>
    (x_cons (x_if (PW.pt (w_or (s_notT (s_test (s_isi (by rfl) m_isinstance (s_name (pv 0)) (by rfl) m_tuple (by decide +kernel)) (fun _ => rfl))) (w_or (t_ne B (k_len B (by rfl) m_len (a_cons (s_name (pv 0)) a_nil)) (s_gi (by rfl) c_SPAN_PARTS)) (w_or1 (s_notT (s_test (k_all B (by rfl) m_all (a_cons (s_lc (own := [("end", 1)]) B.cm B.nd (i_seq (s_name (pv 0))) (show BlkOk ["value", "end"] (defScope st_is_span) _ _ from ⟨rfl, by decide +kernel, by decide +kernel, by decide +kernel, by decide +kernel⟩) (fun s1 H1 A1 cl1 fp1 => (t_name (pg_name (i := 1) (B.blk s1 H1 _ _ fp1).nd rfl (by first | exact .inl rfl | exact .inr rfl)))) (fun s1 H1 A1 cl1 fp1 => pts_yes) (fun s1 H1 A1 cl1 fp1 => (s_call (B.blk s1 H1 _ _ fp1) G_is_number (by decide) (by rfl) (a_cons (s_name (pv 1)) a_nil))) (by decide)) a_nil)) (fun _ => rfl))))))) (x_one (x_ret s_bool)) x_nil) (x_one (x_ret (v_le (s_ix (s_name (pv 0)) s_int (fun _ _ => rfl)) (s_ix (s_name (pv 0)) s_int (fun _ _ => rfl)))))))
noncomputable def sb_has_number : Sv := (sSeq (sIf (mCmp gEq (mN 0) (mK (.str "wait"))) (sRet (mCall sem_is_number (aCons (mV (mN 1)) aNil))) sNil) (sSeq (sIf (mCmp gEq (mN 0) (mK (.str "retry"))) (sRet (eAnd (mIsi "tuple" (mN 1)) (eAnd (bV (mCmp (gI fun i j => decide (i ≤ j)) (mCal (gLen) (aCons (mV (mN 1)) aNil)) (mK (.int 5)))) (mCal (g1 fAll) (aCons (mV (mLc (iOf (mN 1)) (gNm 2) ttY (mCall sem_is_number (aCons (mV (mN 2)) aNil)) [2])) aNil))))) sNil) (sRet (eOr (bV (mCmp gIsN (mN 1) (mK .none))) (mCall sem_is_number (aCons (mV (mN 1)) aNil))))))
noncomputable def sem_has_number : Fs := bodyF 3 2 sb_has_number
theorem kn_has_number (D : Df K mg "has_number" st_has_number) (G_is_number : Kn P w K mg base "is_number" 1 sem_is_number) (m_all : mg "all" = none) (m_isinstance : mg "isinstance" = none) (m_len : mg "len" = none) (m_tuple : mg "tuple" = none) (c_MOST_PAUSES : ∃ t, mg "MOST_PAUSES" = some (.int 5 t)) (c_RETRY : ∃ t, mg "RETRY" = some (.str "retry" t)) (c_WAIT : ∃ t, mg "WAIT" = some (.str "wait" t)) : Kn P w K mg base "has_number" 2 sem_has_number :=
  kn_def (k := 1) (N := ["kind", "number", "one"]) (ps := ["kind", "number"]) (sb := sb_has_number) D ⟨rfl, rfl, rfl, by decide +kernel, rfl, by decide +kernel, by decide +kernel⟩ (fun _ _ _ _ _ _ us hl => match us, hl with | [_, _], _ => rfl) (fun cdv f A outer s H E B =>
    (x_cons (x_if (t_eq B (s_name (pv 0)) (s_gs (by rfl) c_WAIT)) (x_one (x_ret (s_call B G_is_number (by decide) (by rfl) (a_cons (s_name (pv 1)) a_nil)))) x_nil) (x_cons (x_if (t_eq B (s_name (pv 0)) (s_gs (by rfl) c_RETRY)) (x_one (x_ret (s_and (s_isi (by rfl) m_isinstance (s_name (pv 1)) (by rfl) m_tuple (by decide +kernel)) (s_and (v_le (k_len B (by rfl) m_len (a_cons (s_name (pv 1)) a_nil)) (s_gi (by rfl) c_MOST_PAUSES)) (s_one (k_all B (by rfl) m_all (a_cons (s_lc (own := [("one", 2)]) B.cm B.nd (i_seq (s_name (pv 1))) (show BlkOk ["kind", "number", "one"] (defScope st_has_number) _ _ from ⟨rfl, by decide +kernel, by decide +kernel, by decide +kernel, by decide +kernel⟩) (fun s1 H1 A1 cl1 fp1 => (t_name (pg_name (i := 2) (B.blk s1 H1 _ _ fp1).nd rfl (by first | exact .inl rfl | exact .inr rfl)))) (fun s1 H1 A1 cl1 fp1 => pts_yes) (fun s1 H1 A1 cl1 fp1 => (s_call (B.blk s1 H1 _ _ fp1) G_is_number (by decide) (by rfl) (a_cons (s_name (pv 2)) a_nil))) (by decide)) a_nil))))))) x_nil) (x_one (x_ret (s_or (v_isN (s_name (pv 1)) s_none) (s_one (s_call B G_is_number (by decide) (by rfl) (a_cons (s_name (pv 1)) a_nil)))))))))
noncomputable def sb_check_part : Sv := (sSeq (sIf (bNot (mTru (mIsi "tuple" (mN 1)))) (sRaise1 "NoPart" "value" (aCons (mV (mN 1)) aNil)) sNil) (sSeq (sAsg (gNm 2) (mV (mN 0))) (sFor (iOf (mN 1)) (gNm 3) (sSeq (sAsg (gNm 4) (mV (mCall sem_inner (aCons (mV (mN 2)) aNil)))) (sSeq (sIf (bNot (mTru (mCall sem_is_index (aCons (mV (mN 3)) (aCons (mV (mCal (gLen) (aCons (mV (mN 4)) aNil))) aNil))))) (sRaise1 "NoPart" "value" (aCons (mV (mN 1)) aNil)) sNil) (sAsg (gNm 2) (mV (mBin fIx (mN 4) (mN 3)))))))))
noncomputable def sem_check_part : Fs := bodyF 5 2 sb_check_part
theorem kn_check_part (D : Df K mg "check_part" st_check_part) (G_inner : Kn P w K mg base "inner" 1 sem_inner) (G_is_index : Kn P w K mg base "is_index" 1 sem_is_index) (m_isinstance : mg "isinstance" = none) (m_len : mg "len" = none) (m_tuple : mg "tuple" = none) (g_NoPart : mg "NoPart" = some (.ref (He.ga K "NoPart"))) (txt_NoPart : Cfvalue.Txt K (He.ga K "NoPart") (He.ma K (He.ga K "NoPart") "__init__") "NoPart.__init__") : Kn P w K mg base "check_part" 2 sem_check_part :=
  kn_def (k := 1) (N := ["policy", "path", "part", "at", "lower"]) (ps := ["policy", "path"]) (sb := sb_check_part) D ⟨rfl, rfl, rfl, by decide +kernel, rfl, by decide +kernel, by decide +kernel⟩ (fun _ _ _ _ _ _ us hl => match us, hl with | [_, _], _ => rfl) (fun cdv f A outer s H E B =>
    (x_cons (x_if (s_notT (s_test (s_isi (by rfl) m_isinstance (s_name (pv 1)) (by rfl) m_tuple (by decide +kernel)) (fun _ => rfl))) (x_one (x_raise_value B txt_NoPart g_NoPart (by rfl) (a_cons (s_name (pv 1)) a_nil))) x_nil) (x_cons (x_asg (pv_frz (s_name (pv 0))) (t_name (pg_name (i := 2) B.nd rfl (by first | exact .inl rfl | exact .inr rfl)))) (x_one (x_for B.hp B.cm (i_seq (s_name (pv 1))) (t_name (pg_name (i := 3) B.nd rfl (by first | exact .inl rfl | exact .inr rfl))) (x_cons (x_asg (pv_frz (s_call B G_inner (by decide) (by rfl) (a_cons (s_name (pv 2)) a_nil))) (t_name (pg_name (i := 4) B.nd rfl (by first | exact .inl rfl | exact .inr rfl)))) (x_cons (x_if (s_notT (s_test (s_call B G_is_index (by decide) (by rfl) (a_cons (s_name (pv 3)) (a_cons (k_len B (by rfl) m_len (a_cons (s_name (pv 4)) a_nil)) a_nil))) (fun _ => rfl))) (x_one (x_raise_value B txt_NoPart g_NoPart (by rfl) (a_cons (s_name (pv 1)) a_nil))) x_nil) (x_one (x_asg (pv_frz (s_ix (s_name (pv 4)) (s_name (pv 3)) (fun _ _ => rfl))) (t_name (pg_name (i := 2) B.nd rfl (by first | exact .inl rfl | exact .inr rfl))))))))))))
noncomputable def sb__law_of : Sv := (sRet (mBin fIx (mN 1) (mCall sem__law_next (aCons (mVc (mN 0)) (aCons (mV (mCal (gLen) (aCons (mV (mN 1)) aNil))) aNil)))))
noncomputable def sem__law_of : Fs := bodyF 2 2 sb__law_of
theorem kn__law_of (D : Df K mg "_law_of" st__law_of) (G__law_next : Kn P w K mg base "_law_next" 1 sem__law_next) (m_len : mg "len" = none) : Kn P w K mg base "_law_of" 2 sem__law_of :=
  kn_def (k := 1) (N := ["_law_urn_here", "_law_some"]) (ps := ["_law_urn_here", "_law_some"]) (sb := sb__law_of) D ⟨rfl, rfl, rfl, by decide +kernel, rfl, by decide +kernel, by decide +kernel⟩ (fun _ _ _ _ _ _ us hl => match us, hl with | [_, _], _ => rfl) (fun cdv f A outer s H E B =>
    (x_one (x_ret (s_ix (s_name (pv 1)) (s_call B G__law_next (by decide) (by rfl) (a_consC (s_name (pv 0)) (a_cons (k_len B (by rfl) m_len (a_cons (s_name (pv 1)) a_nil)) a_nil))) (fun _ _ => rfl)))))
noncomputable def sb__law_span : Sv := (sSeq (sAsg (gNm 2) (mV (mCall sem__law_next (aCons (mVc (mN 0)) (aCons (mV (mBin fAdd (mN 1) (mK (.int 1)))) aNil))))) (sRet (mTup (aCons (mV (mN 2)) (aCons (mV (mBin fAdd (mN 2) (mCall sem__law_next (aCons (mVc (mN 0)) (aCons (mV (mCal (gII (fun i j => if j < i then j else i)) (aCons (mV (mK (.int 4))) (aCons (mV (mBin fAdd (mBin (fI (fun _ _ => true) fun i j => i - j) (mN 1) (mN 2)) (mK (.int 1)))) aNil)))) aNil))))) aNil)))))
noncomputable def sem__law_span : Fs := bodyF 3 2 sb__law_span
theorem kn__law_span (D : Df K mg "_law_span" st__law_span) (G__law_next : Kn P w K mg base "_law_next" 1 sem__law_next) (m_min : mg "min" = none) : Kn P w K mg base "_law_span" 2 sem__law_span :=
  kn_def (k := 1) (N := ["_law_urn_here", "_law_longest", "_law_low"]) (ps := ["_law_urn_here", "_law_longest"]) (sb := sb__law_span) D ⟨rfl, rfl, rfl, by decide +kernel, rfl, by decide +kernel, by decide +kernel⟩ (fun _ _ _ _ _ _ us hl => match us, hl with | [_, _], _ => rfl) (fun cdv f A outer s H E B =>
    (x_cons (x_asg (pv_frz (s_call B G__law_next (by decide) (by rfl) (a_consC (s_name (pv 0)) (a_cons (s_add (s_name (pv 1)) s_int) a_nil)))) (t_name (pg_name (i := 2) B.nd rfl (by first | exact .inl rfl | exact .inr rfl)))) (x_one (x_ret (s_tup (a_cons (s_name (pv 2)) (a_cons (s_add (s_name (pv 2)) (s_call B G__law_next (by decide) (by rfl) (a_consC (s_name (pv 0)) (a_cons (k_min B (by rfl) m_min (a_cons s_int (a_cons (s_add (s_sub (s_name (pv 1)) (s_name (pv 2))) s_int) a_nil))) a_nil)))) a_nil)))))))
noncomputable def sb__law_part : Sv := (sSeq (sFor (iOf (mN 1)) (gNm 2) (sAsg (gNm 0) (mV (mBin fIx (mCall sem__law_inner (aCons (mV (mN 0)) aNil)) (mN 2))))) (sRet (mN 0)))
noncomputable def sem__law_part : Fs := bodyF 3 2 sb__law_part
theorem kn__law_part (D : Df K mg "_law_part" st__law_part) (G__law_inner : Kn P w K mg base "_law_inner" 1 sem__law_inner) : Kn P w K mg base "_law_part" 2 sem__law_part :=
  kn_def (k := 1) (N := ["_law_policy_here", "_law_path", "_law_at"]) (ps := ["_law_policy_here", "_law_path"]) (sb := sb__law_part) D ⟨rfl, rfl, rfl, by decide +kernel, rfl, by decide +kernel, by decide +kernel⟩ (fun _ _ _ _ _ _ us hl => match us, hl with | [_, _], _ => rfl) (fun cdv f A outer s H E B =>
    (x_cons (x_for B.hp B.cm (i_seq (s_name (pv 1))) (t_name (pg_name (i := 2) B.nd rfl (by first | exact .inl rfl | exact .inr rfl))) (x_one (x_asg (pv_frz (s_ix (s_call B G__law_inner (by decide) (by rfl) (a_cons (s_name (pv 0)) a_nil)) (s_name (pv 2)) (fun _ _ => rfl))) (t_name (pg_name (i := 0) B.nd rfl (by first | exact .inl rfl | exact .inr rfl)))))) (x_one (x_ret (s_name (pv 0))))))
noncomputable def sb__law_is_stretch : Sv := (sSeq (sIf (mCmp gIsN (mN 0) (mK .none)) (sRet (mK (.bool true))) sNil) (sSeq (sIf (bOr (bNot (mTru (mIsi "tuple" (mN 0)))) (bOr (mCmp gNe (mCal (gLen) (aCons (mV (mN 0)) aNil)) (mK (.int 2))) (bNot (mTru (mCal (g1 fAll) (aCons (mV (mLc (iOf (mN 0)) (gNm 1) ttY (mCall sem__law_is_count (aCons (mV (mN 1)) (aCons (mV (mBin (fI pPow fun i j => i ^ j.toNat) (mK (.int 10)) (mK (.int 9)))) aNil))) [1])) aNil)))))) (sRet (mK (.bool false))) sNil) (sRet (bV (mCmp (gI fun i j => decide (i ≤ j)) (mBin fIx (mN 0) (mK (.int 0))) (mBin fIx (mN 0) (mK (.int 1))))))))
noncomputable def sem__law_is_stretch : Fs := bodyF 2 1 sb__law_is_stretch
theorem kn__law_is_stretch (D : Df K mg "_law_is_stretch" st__law_is_stretch) (G__law_is_count : Kn P w K mg base "_law_is_count" 1 sem__law_is_count) (m_all : mg "all" = none) (m_isinstance : mg "isinstance" = none) (m_len : mg "len" = none) (m_tuple : mg "tuple" = none) : Kn P w K mg base "_law_is_stretch" 2 sem__law_is_stretch :=
  kn_def (k := 1) (N := ["_law_value", "_law_end"]) (ps := ["_law_value"]) (sb := sb__law_is_stretch) D ⟨rfl, rfl, rfl, by decide +kernel, rfl, by decide +kernel, by decide +kernel⟩ (fun _ _ _ _ _ _ us hl => match us, hl with | [_], _ => rfl) (fun cdv f A outer s H E B =>
    (x_cons (x_if (t_isN (s_name (pv 0)) s_none) (x_one (x_ret s_bool)) x_nil) (x_cons (x_if (PW.pt (w_or (s_notT (s_test (s_isi (by rfl) m_isinstance (s_name (pv 0)) (by rfl) m_tuple (by decide +kernel)) (fun _ => rfl))) (w_or (t_ne B (k_len B (by rfl) m_len (a_cons (s_name (pv 0)) a_nil)) s_int) (w_or1 (s_notT (s_test (k_all B (by rfl) m_all (a_cons (s_lc (own := [("_law_end", 1)]) B.cm B.nd (i_seq (s_name (pv 0))) (show BlkOk ["_law_value", "_law_end"] (defScope st__law_is_stretch) _ _ from ⟨rfl, by decide +kernel, by decide +kernel, by decide +kernel, by decide +kernel⟩) (fun s1 H1 A1 cl1 fp1 => (t_name (pg_name (i := 1) (B.blk s1 H1 _ _ fp1).nd rfl (by first | exact .inl rfl | exact .inr rfl)))) (fun s1 H1 A1 cl1 fp1 => pts_yes) (fun s1 H1 A1 cl1 fp1 => (s_call (B.blk s1 H1 _ _ fp1) G__law_is_count (by decide) (by rfl) (a_cons (s_name (pv 1)) (a_cons (s_pow s_int s_int) a_nil)))) (by decide)) a_nil)) (fun _ => rfl))))))) (x_one (x_ret s_bool)) x_nil) (x_one (x_ret (v_le (s_ix (s_name (pv 0)) s_int (fun _ _ => rfl)) (s_ix (s_name (pv 0)) s_int (fun _ _ => rfl))))))))
noncomputable def sb_put_at (sem : Fs) : Sv := (sSeq (sIf (mCmp gEq (mN 1) (mTup aNil)) (sRet (mN 2)) sNil) (sSeq (sAsg (gNm 3) (mVc (mCal (g1 fList) (aCons (mV (mCall sem_inner (aCons (mV (mN 0)) aNil))) aNil)))) (sSeq (sAsg (gPl (mN 3) (mBin fIx (mN 1) (mK (.int 0)))) (mV (mCall sem (aCons (mV (mBin fIx (mN 3) (mBin fIx (mN 1) (mK (.int 0))))) (aCons (mV (mSl (mN 1) (oSome (mK (.int 1))) oNone)) (aCons (mV (mN 2)) aNil)))))) (sRet (mCall sem_with_inner (aCons (mV (mN 0)) (aCons (mV (mN 3)) aNil)))))))
noncomputable def sem_put_at : Nat → Fs
  | 0 => fun _ _ => .no
  | n + 1 => bodyF 4 3 (sb_put_at (sem_put_at n))
theorem kn_put_at_all (D : Df K mg "put_at" st_put_at) (G_inner : Kn P w K mg base "inner" 1 sem_inner) (G_with_inner : Kn P w K mg base "with_inner" 1 sem_with_inner) (m_list : mg "list" = none) : ∀ n, Kn P w K mg base "put_at" (2 + 1 * n) (sem_put_at n)
  | 0 => Kn.less (kn_def (k := 1) (N := ["policy", "path", "part", "parts"]) (ps := ["policy", "path", "part"]) (sb := fun _ _ => .no) D ⟨rfl, rfl, rfl, by decide +kernel, rfl, by decide +kernel, by decide +kernel⟩ (fun _ _ _ _ _ _ us hl => match us, hl with | [_, _, _], _ => rfl) (fun cdv f A outer s H E B =>
    x_no)) (fun _ _ => .inl rfl)
  | n + 1 => by
    have G_put_at := kn_put_at_all D G_inner G_with_inner m_list n
    exact kn_def (k := 2 + 1 * n + 0) (N := ["policy", "path", "part", "parts"]) (ps := ["policy", "path", "part"]) (sb := sb_put_at (sem_put_at n)) D ⟨rfl, rfl, rfl, by decide +kernel, rfl, by decide +kernel, by decide +kernel⟩ (fun _ _ _ _ _ _ us hl => match us, hl with | [_, _, _], _ => rfl) (fun cdv f A outer s H E B =>
    (x_cons (x_if (t_eq B (s_name (pv 1)) (s_tup a_nil)) (x_one (x_ret (s_name (pv 2)))) x_nil) (x_cons (x_asg (pv_cell (k_list (by rfl) m_list (a_cons (s_call B G_inner (by omega) (by rfl) (a_cons (s_name (pv 0)) a_nil)) a_nil))) (t_name (pg_name (i := 3) B.nd rfl (by first | exact .inl rfl | exact .inr rfl)))) (x_cons (x_asg (pv_frz (s_call B G_put_at (by omega) (by rfl) (a_cons (s_ix (s_name (pv 3)) (s_ix (s_name (pv 1)) s_int (fun _ _ => rfl)) (fun _ _ => rfl)) (a_cons (s_sl (s_name (pv 1)) (o_some s_int) o_none) (a_cons (s_name (pv 2)) a_nil))))) (t_pl (s_name (pv 3)) (s_ix (s_name (pv 1)) s_int (fun _ _ => rfl)))) (x_one (x_ret (s_call B G_with_inner (by omega) (by rfl) (a_cons (s_name (pv 0)) (a_cons (s_name (pv 3)) a_nil)))))))))
theorem kn_put_at (D : Df K mg "put_at" st_put_at) (G_inner : Kn P w K mg base "inner" 1 sem_inner) (G_with_inner : Kn P w K mg base "with_inner" 1 sem_with_inner) (m_list : mg "list" = none) : Kn P w K mg base "put_at" 27 (sem_put_at 25) := kn_put_at_all D G_inner G_with_inner m_list 25
noncomputable def sb__law_all_paths (sem : Fs) : Sv := (sSeq (sAsg (gNm 1) (mVc (mLst (aCons (mV (mTup aNil)) aNil)))) (sSeq (sFor (iEn (aCons (mV (mCall sem__law_inner (aCons (mV (mN 0)) aNil))) aNil)) (gTp 2 (gCons9 (gNm 2) (gCons9 (gNm 3) gNil9))) (sExp (mExt (mN 1) (mLc (iOf (mCall sem (aCons (mV (mN 3)) aNil))) (gNm 4) ttY (mBin fAdd (mTup (aCons (mV (mN 2)) aNil)) (mN 4)) [4])))) (sRet (mN 1))))
noncomputable def sem__law_all_paths : Nat → Fs
  | 0 => fun _ _ => .no
  | n + 1 => bodyF 5 1 (sb__law_all_paths (sem__law_all_paths n))
theorem kn__law_all_paths_all (D : Df K mg "_law_all_paths" st__law_all_paths) (G__law_inner : Kn P w K mg base "_law_inner" 1 sem__law_inner) (m_enumerate : mg "enumerate" = none) : ∀ n, Kn P w K mg base "_law_all_paths" (2 + 1 * n) (sem__law_all_paths n)
  | 0 => Kn.less (kn_def (k := 1) (N := ["_law_policy_here", "_law_found", "_law_at", "_law_part_here", "_law_path"]) (ps := ["_law_policy_here"]) (sb := fun _ _ => .no) D ⟨rfl, rfl, rfl, by decide +kernel, rfl, by decide +kernel, by decide +kernel⟩ (fun _ _ _ _ _ _ us hl => match us, hl with | [_], _ => rfl) (fun cdv f A outer s H E B =>
    x_no)) (fun _ _ => .inl rfl)
  | n + 1 => by
    have G__law_all_paths := kn__law_all_paths_all D G__law_inner m_enumerate n
    exact kn_def (k := 2 + 1 * n + 0) (N := ["_law_policy_here", "_law_found", "_law_at", "_law_part_here", "_law_path"]) (ps := ["_law_policy_here"]) (sb := sb__law_all_paths (sem__law_all_paths n)) D ⟨rfl, rfl, rfl, by decide +kernel, rfl, by decide +kernel, by decide +kernel⟩ (fun _ _ _ _ _ _ us hl => match us, hl with | [_], _ => rfl) (fun cdv f A outer s H E B =>
    (x_cons (x_asg (pv_cell (s_lst (a_cons (s_tup a_nil) a_nil))) (t_name (pg_name (i := 1) B.nd rfl (by first | exact .inl rfl | exact .inr rfl)))) (x_cons (x_for B.hp B.cm (i_enum (by rfl) m_enumerate (a_cons (s_call B G__law_inner (by omega) (by rfl) (a_cons (s_name (pv 0)) a_nil)) a_nil)) (t_tup B.cm (t_cons (t_name (pg_name (i := 2) B.nd rfl (by first | exact .inl rfl | exact .inr rfl))) (t_cons (t_name (pg_name (i := 3) B.nd rfl (by first | exact .inl rfl | exact .inr rfl))) t_nil))) (x_one (x_expr (y_ext (s_name (pv 1)) (s_lc (own := [("_law_path", 4)]) B.cm B.nd (i_seq (s_call B G__law_all_paths (by omega) (by rfl) (a_cons (s_name (pv 3)) a_nil))) (show BlkOk ["_law_policy_here", "_law_found", "_law_at", "_law_part_here", "_law_path"] (defScope st__law_all_paths) _ _ from ⟨rfl, by decide +kernel, by decide +kernel, by decide +kernel, by decide +kernel⟩) (fun s1 H1 A1 cl1 fp1 => (t_name (pg_name (i := 4) (B.blk s1 H1 _ _ fp1).nd rfl (by first | exact .inl rfl | exact .inr rfl)))) (fun s1 H1 A1 cl1 fp1 => pts_yes) (fun s1 H1 A1 cl1 fp1 => (s_add (s_tup (a_cons (s_name (pv 2)) a_nil)) (s_name (pv 4)))) (by decide)))))) (x_one (x_ret (s_name (pv 1)))))))
theorem kn__law_all_paths (D : Df K mg "_law_all_paths" st__law_all_paths) (G__law_inner : Kn P w K mg base "_law_inner" 1 sem__law_inner) (m_enumerate : mg "enumerate" = none) : Kn P w K mg base "_law_all_paths" 27 (sem__law_all_paths 25) := kn__law_all_paths_all D G__law_inner m_enumerate 25
noncomputable def sb__law_put (sem : Fs) : Sv := (sSeq (sIf (mCmp gEq (mN 1) (mTup aNil)) (sRet (mN 2)) sNil) (sSeq (sAsg (gNm 3) (mVc (mCal (g1 fList) (aCons (mV (mCall sem__law_inner (aCons (mV (mN 0)) aNil))) aNil)))) (sSeq (sAsg (gPl (mN 3) (mBin fIx (mN 1) (mK (.int 0)))) (mV (mCall sem (aCons (mV (mBin fIx (mN 3) (mBin fIx (mN 1) (mK (.int 0))))) (aCons (mV (mSl (mN 1) (oSome (mK (.int 1))) oNone)) (aCons (mV (mN 2)) aNil)))))) (sRet (mBin fAdd (mSl (mN 0) oNone (oSome (mBin (fI (fun _ _ => true) fun i j => i - j) (mCal (gLen) (aCons (mV (mN 0)) aNil)) (mCal (gLen) (aCons (mV (mN 3)) aNil))))) (mCal (g1 fTuple) (aCons (mV (mN 3)) aNil)))))))
noncomputable def sem__law_put : Nat → Fs
  | 0 => fun _ _ => .no
  | n + 1 => bodyF 4 3 (sb__law_put (sem__law_put n))
theorem kn__law_put_all (D : Df K mg "_law_put" st__law_put) (G__law_inner : Kn P w K mg base "_law_inner" 1 sem__law_inner) (m_len : mg "len" = none) (m_list : mg "list" = none) (m_tuple : mg "tuple" = none) : ∀ n, Kn P w K mg base "_law_put" (2 + 1 * n) (sem__law_put n)
  | 0 => Kn.less (kn_def (k := 1) (N := ["_law_policy_here", "_law_path", "_law_part_here", "_law_level"]) (ps := ["_law_policy_here", "_law_path", "_law_part_here"]) (sb := fun _ _ => .no) D ⟨rfl, rfl, rfl, by decide +kernel, rfl, by decide +kernel, by decide +kernel⟩ (fun _ _ _ _ _ _ us hl => match us, hl with | [_, _, _], _ => rfl) (fun cdv f A outer s H E B =>
    x_no)) (fun _ _ => .inl rfl)
  | n + 1 => by
    have G__law_put := kn__law_put_all D G__law_inner m_len m_list m_tuple n
    exact kn_def (k := 2 + 1 * n + 0) (N := ["_law_policy_here", "_law_path", "_law_part_here", "_law_level"]) (ps := ["_law_policy_here", "_law_path", "_law_part_here"]) (sb := sb__law_put (sem__law_put n)) D ⟨rfl, rfl, rfl, by decide +kernel, rfl, by decide +kernel, by decide +kernel⟩ (fun _ _ _ _ _ _ us hl => match us, hl with | [_, _, _], _ => rfl) (fun cdv f A outer s H E B =>
    (x_cons (x_if (t_eq B (s_name (pv 1)) (s_tup a_nil)) (x_one (x_ret (s_name (pv 2)))) x_nil) (x_cons (x_asg (pv_cell (k_list (by rfl) m_list (a_cons (s_call B G__law_inner (by omega) (by rfl) (a_cons (s_name (pv 0)) a_nil)) a_nil))) (t_name (pg_name (i := 3) B.nd rfl (by first | exact .inl rfl | exact .inr rfl)))) (x_cons (x_asg (pv_frz (s_call B G__law_put (by omega) (by rfl) (a_cons (s_ix (s_name (pv 3)) (s_ix (s_name (pv 1)) s_int (fun _ _ => rfl)) (fun _ _ => rfl)) (a_cons (s_sl (s_name (pv 1)) (o_some s_int) o_none) (a_cons (s_name (pv 2)) a_nil))))) (t_pl (s_name (pv 3)) (s_ix (s_name (pv 1)) s_int (fun _ _ => rfl)))) (x_one (x_ret (s_add (s_sl (s_name (pv 0)) o_none (o_some (s_sub (k_len B (by rfl) m_len (a_cons (s_name (pv 0)) a_nil)) (k_len B (by rfl) m_len (a_cons (s_name (pv 3)) a_nil))))) (k_tuple (by rfl) m_tuple (a_cons (s_name (pv 3)) a_nil)))))))))
theorem kn__law_put (D : Df K mg "_law_put" st__law_put) (G__law_inner : Kn P w K mg base "_law_inner" 1 sem__law_inner) (m_len : mg "len" = none) (m_list : mg "list" = none) (m_tuple : mg "tuple" = none) : Kn P w K mg base "_law_put" 27 (sem__law_put 25) := kn__law_put_all D G__law_inner m_len m_list m_tuple 25
noncomputable def sb_is_call : Sv := (sSeq (sAsg (gTp 5 (gCons9 (gNm 1) (gCons9 (gNm 2) (gCons9 (gNm 3) (gCons9 (gNm 4) (gCons9 (gNm 5) gNil9)))))) (mV (mN 0))) (sSeq (sIf (bOr (bNot (mTru (mCall sem_is_label (aCons (mV (mN 2)) aNil)))) (bNot (mTru (mIsi "bool" (mN 5))))) (sRet (mK (.bool false))) sNil) (sSeq (sIf (bNot (mTru (mCal (g1 fAll) (aCons (mV (mLc (iOf (mTup (aCons (mV (mN 3)) (aCons (mV (mN 4)) aNil)))) (gNm 6) ttY (eOr (bV (mCmp gIsN (mN 6) (mK .none))) (mCall sem_is_span (aCons (mV (mN 6)) aNil))) [6])) aNil)))) (sRet (mK (.bool false))) sNil) (sRet (eOr (mN 5) (eOr (bV (mCmp gNotN (mN 3) (mK .none))) (bV (mCmp gNotN (mN 4) (mK .none)))))))))
noncomputable def sem_is_call : Fs := bodyF 7 1 sb_is_call
theorem kn_is_call (D : Df K mg "is_call" st_is_call) (G_is_label : Kn P w K mg base "is_label" 1 sem_is_label) (G_is_span : Kn P w K mg base "is_span" 2 sem_is_span) (m_all : mg "all" = none) (m_bool : mg "bool" = none) (m_isinstance : mg "isinstance" = none) : Kn P w K mg base "is_call" 3 sem_is_call :=
  kn_def (k := 2) (N := ["value", "kind", "label", "good", "bad", "hangs", "span"]) (ps := ["value"]) (sb := sb_is_call) D ⟨rfl, rfl, rfl, by decide +kernel, rfl, by decide +kernel, by decide +kernel⟩ (fun _ _ _ _ _ _ us hl => match us, hl with | [_], _ => rfl) (fun cdv f A outer s H E B =>
    (x_cons (x_asg (pv_frz (s_name (pv 0))) (t_tup B.cm (t_cons (t_name (pg_name (i := 1) B.nd rfl (by first | exact .inl rfl | exact .inr rfl))) (t_cons (t_name (pg_name (i := 2) B.nd rfl (by first | exact .inl rfl | exact .inr rfl))) (t_cons (t_name (pg_name (i := 3) B.nd rfl (by first | exact .inl rfl | exact .inr rfl))) (t_cons (t_name (pg_name (i := 4) B.nd rfl (by first | exact .inl rfl | exact .inr rfl))) (t_cons (t_name (pg_name (i := 5) B.nd rfl (by first | exact .inl rfl | exact .inr rfl))) t_nil))))))) (x_cons (x_if (PW.pt (w_or (s_notT (s_test (s_call B G_is_label (by decide) (by rfl) (a_cons (s_name (pv 2)) a_nil)) (fun _ => rfl))) (w_or1 (s_notT (s_test (s_isi (by rfl) m_isinstance (s_name (pv 5)) (by rfl) m_bool (by decide +kernel)) (fun _ => rfl)))))) (x_one (x_ret s_bool)) x_nil) (x_cons (x_if (s_notT (s_test (k_all B (by rfl) m_all (a_cons (s_lc (own := [("span", 6)]) B.cm B.nd (i_seq (s_tup (a_cons (s_name (pv 3)) (a_cons (s_name (pv 4)) a_nil)))) (show BlkOk ["value", "kind", "label", "good", "bad", "hangs", "span"] (defScope st_is_call) _ _ from ⟨rfl, by decide +kernel, by decide +kernel, by decide +kernel, by decide +kernel⟩) (fun s1 H1 A1 cl1 fp1 => (t_name (pg_name (i := 6) (B.blk s1 H1 _ _ fp1).nd rfl (by first | exact .inl rfl | exact .inr rfl)))) (fun s1 H1 A1 cl1 fp1 => pts_yes) (fun s1 H1 A1 cl1 fp1 => (s_or (v_isN (s_name (pv 6)) s_none) (s_one (s_call (B.blk s1 H1 _ _ fp1) G_is_span (by decide) (by rfl) (a_cons (s_name (pv 6)) a_nil))))) (by decide)) a_nil)) (fun _ => rfl))) (x_one (x_ret s_bool)) x_nil) (x_one (x_ret (s_or (s_name (pv 5)) (s_or (v_notN (s_name (pv 3)) s_none) (s_one (v_notN (s_name (pv 4)) s_none))))))))))
noncomputable def sb_part_at : Sv := (sSeq (sExp (mCall sem_check_part (aCons (mV (mN 0)) (aCons (mV (mN 1)) aNil)))) (sSeq (sAsg (gNm 2) (mV (mN 0))) (sSeq (sFor (iOf (mN 1)) (gNm 3) (sAsg (gNm 2) (mV (mBin fIx (mCall sem_inner (aCons (mV (mN 2)) aNil)) (mN 3))))) (sRet (mN 2)))))
noncomputable def sem_part_at : Fs := bodyF 4 2 sb_part_at
theorem kn_part_at (D : Df K mg "part_at" st_part_at) (G_check_part : Kn P w K mg base "check_part" 2 sem_check_part) (G_inner : Kn P w K mg base "inner" 1 sem_inner) : Kn P w K mg base "part_at" 3 sem_part_at :=
  kn_def (k := 2) (N := ["policy", "path", "part", "at"]) (ps := ["policy", "path"]) (sb := sb_part_at) D ⟨rfl, rfl, rfl, by decide +kernel, rfl, by decide +kernel, by decide +kernel⟩ (fun _ _ _ _ _ _ us hl => match us, hl with | [_, _], _ => rfl) (fun cdv f A outer s H E B =>
    (x_cons (x_expr (s_call B G_check_part (by decide) (by rfl) (a_cons (s_name (pv 0)) (a_cons (s_name (pv 1)) a_nil)))) (x_cons (x_asg (pv_frz (s_name (pv 0))) (t_name (pg_name (i := 2) B.nd rfl (by first | exact .inl rfl | exact .inr rfl)))) (x_cons (x_for B.hp B.cm (i_seq (s_name (pv 1))) (t_name (pg_name (i := 3) B.nd rfl (by first | exact .inl rfl | exact .inr rfl))) (x_one (x_asg (pv_frz (s_ix (s_call B G_inner (by decide) (by rfl) (a_cons (s_name (pv 2)) a_nil)) (s_name (pv 3)) (fun _ _ => rfl))) (t_name (pg_name (i := 2) B.nd rfl (by first | exact .inl rfl | exact .inr rfl)))))) (x_one (x_ret (s_name (pv 2))))))))
noncomputable def sb__law_call : Sv := (sSeq (sPar [3, 4] (aCons (mV (mCall sem__law_next (aCons (mVc (mN 0)) (aCons (mV (mK (.int 5))) aNil)))) (aCons (mV (bV (mCmp gEq (mCall sem__law_next (aCons (mVc (mN 0)) (aCons (mV (mK (.int 4))) aNil))) (mK (.int 0))))) aNil))) (sSeq (sAsg (gNm 5) (mV (eIf (mCmp gNe (mN 3) (mK (.int 3))) (mCall sem__law_span (aCons (mVc (mN 0)) (aCons (mV (mN 2)) aNil))) (mK .none)))) (sSeq (sAsg (gNm 6) (mV (eIf (mCmp (gIn false) (mN 3) (mTup (aCons (mV (mK (.int 1))) (aCons (mV (mK (.int 2))) (aCons (mV (mK (.int 3))) aNil))))) (mCall sem__law_span (aCons (mVc (mN 0)) (aCons (mV (mN 2)) aNil))) (mK .none)))) (sRet (mTup (aCons (mV (mK (.str "call"))) (aCons (mV (mN 1)) (aCons (mV (mN 5)) (aCons (mV (mN 6)) (aCons (mV (mN 4)) aNil))))))))))
noncomputable def sem__law_call : Fs := bodyF 7 3 sb__law_call
theorem kn__law_call (D : Df K mg "_law_call" st__law_call) (G__law_next : Kn P w K mg base "_law_next" 1 sem__law_next) (G__law_span : Kn P w K mg base "_law_span" 2 sem__law_span) : Kn P w K mg base "_law_call" 3 sem__law_call :=
  kn_def (k := 2) (N := ["_law_urn_here", "_law_label_here", "_law_longest", "_law_way", "_law_hangs", "_law_good", "_law_bad"]) (ps := ["_law_urn_here", "_law_label_here", "_law_longest"]) (sb := sb__law_call) D ⟨rfl, rfl, rfl, by decide +kernel, rfl, by decide +kernel, by decide +kernel⟩ (fun _ _ _ _ _ _ us hl => match us, hl with | [_, _, _], _ => rfl) (fun cdv f A outer s H E B =>
    (x_cons (x_par (ps_par B.cm B.nd rfl rfl (by decide) rfl rfl (a_cons (s_call B G__law_next (by decide) (by rfl) (a_consC (s_name (pv 0)) (a_cons s_int a_nil))) (a_cons (v_eq B (s_call B G__law_next (by decide) (by rfl) (a_consC (s_name (pv 0)) (a_cons s_int a_nil))) s_int) a_nil)) rfl)) (x_cons (x_asg (pv_frz (s_ifE (t_ne B (s_name (pv 3)) s_int) (s_call B G__law_span (by decide) (by rfl) (a_consC (s_name (pv 0)) (a_cons (s_name (pv 2)) a_nil))) s_none)) (t_name (pg_name (i := 5) B.nd rfl (by first | exact .inl rfl | exact .inr rfl)))) (x_cons (x_asg (pv_frz (s_ifE (t_in (s_name (pv 3)) (s_tup (a_cons s_int (a_cons s_int (a_cons s_int a_nil)))) rfl) (s_call B G__law_span (by decide) (by rfl) (a_consC (s_name (pv 0)) (a_cons (s_name (pv 2)) a_nil))) s_none)) (t_name (pg_name (i := 6) B.nd rfl (by first | exact .inl rfl | exact .inr rfl)))) (x_one (x_ret (s_tup (a_cons s_str (a_cons (s_name (pv 1)) (a_cons (s_name (pv 5)) (a_cons (s_name (pv 6)) (a_cons (s_name (pv 4)) a_nil))))))))))))
noncomputable def sb__law_has_form : Sv := (sSeq (sAsg (gNm 1) (mVc (mDct [((mK (.str "call")), (mK (.int 5))), ((mK (.str "wait")), (mK (.int 2))), ((mK (.str "then")), (mK (.int 3))), ((mK (.str "fallback")), (mK (.int 4))), ((mK (.str "retry")), (mK (.int 3))), ((mK (.str "timeout")), (mK (.int 3))), ((mK (.str "race")), (mK (.int 4))), ((mK (.str "both")), (mK (.int 3)))]))) (sSeq (sDput (mN 1) (mK (.str "hedge")) (mK (.int 4))) (sSeq (sIf (bOr (bNot (mTru (mIsi "tuple" (mN 0)))) (bOr (mCmp (gI fun i j => decide (i < j)) (mCal (gLen) (aCons (mV (mN 0)) aNil)) (mK (.int 2))) (bNot (mTru (mIsi "str" (mBin fIx (mN 0) (mK (.int 0)))))))) (sRet (mK (.bool false))) sNil) (sSeq (sIf (mCmp gNe (mDGet2 (mN 1) (mBin fIx (mN 0) (mK (.int 0))) (mK (.int 0))) (mCal (gLen) (aCons (mV (mN 0)) aNil))) (sRet (mK (.bool false))) sNil) (sSeq (sIf (mCmp gEq (mBin fIx (mN 0) (mK (.int 0))) (mK (.str "call"))) (sSeq (sIf (bOr (bNot (mTru (mCall sem__law_is_mark (aCons (mV (mBin fIx (mN 0) (mK (.int 1)))) aNil)))) (bNot (mTru (mIsi "bool" (mBin fIx (mN 0) (mK (.int 4))))))) (sRet (mK (.bool false))) sNil) (sSeq (sIf (bOr (bNot (mTru (mCall sem__law_is_stretch (aCons (mV (mBin fIx (mN 0) (mK (.int 2)))) aNil)))) (bNot (mTru (mCall sem__law_is_stretch (aCons (mV (mBin fIx (mN 0) (mK (.int 3)))) aNil))))) (sRet (mK (.bool false))) sNil) (sRet (eOr (mBin fIx (mN 0) (mK (.int 4))) (eOr (bV (mCmp gNotN (mBin fIx (mN 0) (mK (.int 2))) (mK .none))) (bV (mCmp gNotN (mBin fIx (mN 0) (mK (.int 3))) (mK .none)))))))) sNil) (sSeq (sIf (mCmp gEq (mBin fIx (mN 0) (mK (.int 0))) (mK (.str "wait"))) (sRet (mCall sem__law_is_count (aCons (mV (mBin fIx (mN 0) (mK (.int 1)))) (aCons (mV (mBin (fI pPow fun i j => i ^ j.toNat) (mK (.int 10)) (mK (.int 9)))) aNil)))) sNil) (sSeq (sIf (mCmp gEq (mBin fIx (mN 0) (mK (.int 0))) (mK (.str "retry"))) (sSeq (sIf (bOr (bNot (mTru (mIsi "tuple" (mBin fIx (mN 0) (mK (.int 1)))))) (mCmp (gI fun i j => decide (j < i)) (mCal (gLen) (aCons (mV (mBin fIx (mN 0) (mK (.int 1)))) aNil)) (mK (.int 5)))) (sRet (mK (.bool false))) sNil) (sRet (mCal (g1 fAll) (aCons (mV (mLc (iOf (mBin fIx (mN 0) (mK (.int 1)))) (gNm 2) ttY (mCall sem__law_is_count (aCons (mV (mN 2)) (aCons (mV (mBin (fI pPow fun i j => i ^ j.toNat) (mK (.int 10)) (mK (.int 9)))) aNil))) [2])) aNil)))) sNil) (sRet (eOr (bV (mCmp (gIn false) (mBin fIx (mN 0) (mK (.int 0))) (mTup (aCons (mV (mK (.str "then"))) (aCons (mV (mK (.str "both"))) aNil))))) (eOr (bV (mCmp gIsN (mBin fIx (mN 0) (mK (.int 1))) (mK .none))) (mCall sem__law_is_count (aCons (mV (mBin fIx (mN 0) (mK (.int 1)))) (aCons (mV (mBin (fI pPow fun i j => i ^ j.toNat) (mK (.int 10)) (mK (.int 9)))) aNil)))))))))))))
noncomputable def sem__law_has_form : Fs := bodyF 3 1 sb__law_has_form
theorem kn__law_has_form (D : Df K mg "_law_has_form" st__law_has_form) (G__law_is_count : Kn P w K mg base "_law_is_count" 1 sem__law_is_count) (G__law_is_mark : Kn P w K mg base "_law_is_mark" 1 sem__law_is_mark) (G__law_is_stretch : Kn P w K mg base "_law_is_stretch" 2 sem__law_is_stretch) (m_all : mg "all" = none) (m_bool : mg "bool" = none) (m_isinstance : mg "isinstance" = none) (m_len : mg "len" = none) (m_str : mg "str" = none) (m_tuple : mg "tuple" = none) : Kn P w K mg base "_law_has_form" 3 sem__law_has_form :=
  kn_def (k := 2) (N := ["_law_value", "_law_sizes", "_law_one"]) (ps := ["_law_value"]) (sb := sb__law_has_form) D ⟨rfl, rfl, rfl, by decide +kernel, rfl, by decide +kernel, by decide +kernel⟩ (fun _ _ _ _ _ _ us hl => match us, hl with | [_], _ => rfl) (fun cdv f A outer s H E B =>
    (x_cons (x_asg (pv_cell (s_dct (pps_cons (pv_frz s_str) (pv_frz s_int) (pps_cons (pv_frz s_str) (pv_frz s_int) (pps_cons (pv_frz s_str) (pv_frz s_int) (pps_cons (pv_frz s_str) (pv_frz s_int) (pps_cons (pv_frz s_str) (pv_frz s_int) (pps_cons (pv_frz s_str) (pv_frz s_int) (pps_cons (pv_frz s_str) (pv_frz s_int) (pps_cons (pv_frz s_str) (pv_frz s_int) pps_nil)))))))) rfl rfl (by simp) (by decide))) (t_name (pg_name (i := 1) B.nd rfl (by first | exact .inl rfl | exact .inr rfl)))) (x_cons (x_dput B (s_name (pv 1)) s_str s_int) (x_cons (x_if (PW.pt (w_or (s_notT (s_test (s_isi (by rfl) m_isinstance (s_name (pv 0)) (by rfl) m_tuple (by decide +kernel)) (fun _ => rfl))) (w_or (t_lt (k_len B (by rfl) m_len (a_cons (s_name (pv 0)) a_nil)) s_int) (w_or1 (s_notT (s_test (s_isi (by rfl) m_isinstance (s_ix (s_name (pv 0)) s_int (fun _ _ => rfl)) (by rfl) m_str (by decide +kernel)) (fun _ => rfl))))))) (x_one (x_ret s_bool)) x_nil) (x_cons (x_if (t_ne B (y_dget2 B.rm.hu (s_name (pv 1)) (s_ix (s_name (pv 0)) s_int (fun _ _ => rfl)) s_int ⟨by rfl, by rfl, by rfl, by rfl⟩) (k_len B (by rfl) m_len (a_cons (s_name (pv 0)) a_nil))) (x_one (x_ret s_bool)) x_nil) (x_cons (x_if (t_eq B (s_ix (s_name (pv 0)) s_int (fun _ _ => rfl)) s_str) (x_cons (x_if (PW.pt (w_or (s_notT (s_test (s_call B G__law_is_mark (by decide) (by rfl) (a_cons (s_ix (s_name (pv 0)) s_int (fun _ _ => rfl)) a_nil)) (fun _ => rfl))) (w_or1 (s_notT (s_test (s_isi (by rfl) m_isinstance (s_ix (s_name (pv 0)) s_int (fun _ _ => rfl)) (by rfl) m_bool (by decide +kernel)) (fun _ => rfl)))))) (x_one (x_ret s_bool)) x_nil) (x_cons (x_if (PW.pt (w_or (s_notT (s_test (s_call B G__law_is_stretch (by decide) (by rfl) (a_cons (s_ix (s_name (pv 0)) s_int (fun _ _ => rfl)) a_nil)) (fun _ => rfl))) (w_or1 (s_notT (s_test (s_call B G__law_is_stretch (by decide) (by rfl) (a_cons (s_ix (s_name (pv 0)) s_int (fun _ _ => rfl)) a_nil)) (fun _ => rfl)))))) (x_one (x_ret s_bool)) x_nil) (x_one (x_ret (s_or (s_ix (s_name (pv 0)) s_int (fun _ _ => rfl)) (s_or (v_notN (s_ix (s_name (pv 0)) s_int (fun _ _ => rfl)) s_none) (s_one (v_notN (s_ix (s_name (pv 0)) s_int (fun _ _ => rfl)) s_none)))))))) x_nil) (x_cons (x_if (t_eq B (s_ix (s_name (pv 0)) s_int (fun _ _ => rfl)) s_str) (x_one (x_ret (s_call B G__law_is_count (by decide) (by rfl) (a_cons (s_ix (s_name (pv 0)) s_int (fun _ _ => rfl)) (a_cons (s_pow s_int s_int) a_nil))))) x_nil) (x_cons (x_if (t_eq B (s_ix (s_name (pv 0)) s_int (fun _ _ => rfl)) s_str) (x_cons (x_if (PW.pt (w_or (s_notT (s_test (s_isi (by rfl) m_isinstance (s_ix (s_name (pv 0)) s_int (fun _ _ => rfl)) (by rfl) m_tuple (by decide +kernel)) (fun _ => rfl))) (w_or1 (t_gt (k_len B (by rfl) m_len (a_cons (s_ix (s_name (pv 0)) s_int (fun _ _ => rfl)) a_nil)) s_int)))) (x_one (x_ret s_bool)) x_nil) (x_one (x_ret (k_all B (by rfl) m_all (a_cons (s_lc (own := [("_law_one", 2)]) B.cm B.nd (i_seq (s_ix (s_name (pv 0)) s_int (fun _ _ => rfl))) (show BlkOk ["_law_value", "_law_sizes", "_law_one"] (defScope st__law_has_form) _ _ from ⟨rfl, by decide +kernel, by decide +kernel, by decide +kernel, by decide +kernel⟩) (fun s1 H1 A1 cl1 fp1 => (t_name (pg_name (i := 2) (B.blk s1 H1 _ _ fp1).nd rfl (by first | exact .inl rfl | exact .inr rfl)))) (fun s1 H1 A1 cl1 fp1 => pts_yes) (fun s1 H1 A1 cl1 fp1 => (s_call (B.blk s1 H1 _ _ fp1) G__law_is_count (by decide) (by rfl) (a_cons (s_name (pv 2)) (a_cons (s_pow s_int s_int) a_nil)))) (by decide)) a_nil))))) x_nil) (x_one (x_ret (s_or (v_in (s_ix (s_name (pv 0)) s_int (fun _ _ => rfl)) (s_tup (a_cons s_str (a_cons s_str a_nil))) rfl) (s_or (v_isN (s_ix (s_name (pv 0)) s_int (fun _ _ => rfl)) s_none) (s_one (s_call B G__law_is_count (by decide) (by rfl) (a_cons (s_ix (s_name (pv 0)) s_int (fun _ _ => rfl)) (a_cons (s_pow s_int s_int) a_nil))))))))))))))))
noncomputable def sb__law_bent (sem : Fs) : Sv := (sSeq (sIf (bAnd (mTru (mIsi "tuple" (mN 1))) (bAnd (mCmp gNeT (mN 1) (mTup aNil)) (mCmp (gI fun i j => decide (j < i)) (mCall sem__law_next (aCons (mVc (mN 0)) (aCons (mV (mK (.int 6))) aNil))) (mK (.int 0))))) (sSeq (sPar [2, 3] (aCons (mV (mCall sem__law_next (aCons (mVc (mN 0)) (aCons (mV (mCal (gLen) (aCons (mV (mN 1)) aNil))) aNil)))) (aCons (mV (mCall sem__law_next (aCons (mVc (mN 0)) (aCons (mV (mK (.int 9))) aNil)))) aNil))) (sSeq (sIf (mCmp gEq (mN 3) (mK (.int 0))) (sRet (mBin fAdd (mSl (mN 1) oNone (oSome (mN 2))) (mSl (mN 1) (oSome (mBin fAddB (mN 2) (mK (.int 1)))) oNone))) sNil) (sSeq (sIf (mCmp gEq (mN 3) (mK (.int 1))) (sRet (mBin fAdd (mBin fAdd (mSl (mN 1) oNone (oSome (mN 2))) (mSl (mN 1) (oSome (mN 2)) (oSome (mBin fAddB (mN 2) (mK (.int 1)))))) (mSl (mN 1) (oSome (mN 2)) oNone))) sNil) (sSeq (sIf (mCmp gEq (mN 3) (mK (.int 2))) (sRet (mBin fAdd (mSl (mN 1) oNone (oSome (mN 2))) (mTurn (mSl (mN 1) (oSome (mN 2)) oNone)))) sNil) (sRet (mBin fAdd (mBin fAdd (mSl (mN 1) oNone (oSome (mN 2))) (mTup (aCons (mV (mCall sem (aCons (mVc (mN 0)) (aCons (mV (mBin fIx (mN 1) (mN 2))) aNil)))) aNil))) (mSl (mN 1) (oSome (mBin fAddB (mN 2) (mK (.int 1)))) oNone))))))) sNil) (sSeq (sAsg (gNm 4) (mV (mLst (aCons (mV (mK .none)) (aCons (mV (mK (.bool true))) (aCons (mV (mK (.bool false))) (aCons (mV (mK (.int 0))) (aCons (mV (mK (.int 1))) (aCons (mV (mNeg (mK (.int 1)))) (aCons (mV (mBin (fI pPow fun i j => i ^ j.toNat) (mK (.int 10)) (mK (.int 9)))) (aCons (mV (mBin fAdd (mBin (fI pPow fun i j => i ^ j.toNat) (mK (.int 10)) (mK (.int 9))) (mK (.int 1)))) (aCons (mV (mK (.str ""))) (aCons (mV (mK (.str "a"))) (aCons (mV (mK (.str "call"))) (aCons (mV (mK (.str "wait"))) (aCons (mV (mK (.str "race"))) aNil)))))))))))))))) (sSeq (sAsg (gNm 4) (mV (mBin fAdd (mN 4) (mLst (aCons (mV (mK (.str "longlabel"))) (aCons (mV (mTup aNil)) (aCons (mV (mLst aNil)) (aCons (mV mD0) aNil)))))))) (sSeq (sIf (mTru (mIsi "tuple" (mN 1))) (sAsg (gNm 4) (mV (mBin fAdd (mN 4) (mBin fMulA (mLst (aCons (mV (mCal (g1 fList) (aCons (mV (mN 1)) aNil))) (aCons (mV (mBin fAdd (mN 1) (mTup (aCons (mV (mK (.str "a"))) aNil)))) (aCons (mV (mBin fAdd (mN 1) (mN 1))) (aCons (mV (mTup (aCons (mV (mN 1)) aNil))) (aCons (mV (mTup (aCons (mV (mK (.str "wait"))) (aCons (mV (mK (.int 2))) aNil)))) aNil)))))) (mK (.int 2)))))) sNil) (sSeq (sIf (mTru (mIsi "str" (mN 1))) (sAsg (gNm 4) (mV (mBin fAdd (mN 4) (mBin fMulA (mLst (aCons (mV (mBin fAdd (mN 1) (mK (.str "x")))) (aCons (mV (mUpper (mN 1))) (aCons (mV (mBin fAdd (mN 1) (mK (.str " ")))) (aCons (mV (mSl (mN 1) (oSome (mK (.int 1))) oNone)) (aCons (mV (mTup (aCons (mV (mN 1)) aNil))) (aCons (mV (mLst (aCons (mV (mN 1)) aNil))) aNil))))))) (mK (.int 2)))))) sNil) (sSeq (sIf (mTru (mIsi "int" (mN 1))) (sAsg (gNm 4) (mV (mBin fAdd (mN 4) (mBin fMulA (mLst (aCons (mV (mBin fAddB (mN 1) (mK (.int 1)))) (aCons (mV (mBin fSubB (mN 1) (mK (.int 1)))) (aCons (mV (mBin fSubR (mK (.int 0)) (mN 1))) (aCons (mV (bV (mCmp gEq (mN 1) (mK (.int 1))))) (aCons (mV (mCal (g1 fStrB) (aCons (mV (mN 1)) aNil))) aNil)))))) (mK (.int 2)))))) sNil) (sRet (mCall sem__law_of (aCons (mVc (mN 0)) (aCons (mV (mN 4)) aNil))))))))))
noncomputable def sem__law_bent : Nat → Fs
  | 0 => fun _ _ => .no
  | n + 1 => bodyF 5 2 (sb__law_bent (sem__law_bent n))
theorem kn__law_bent_all (D : Df K mg "_law_bent" st__law_bent) (G__law_next : Kn P w K mg base "_law_next" 1 sem__law_next) (G__law_of : Kn P w K mg base "_law_of" 2 sem__law_of) (m_int : mg "int" = none) (m_isinstance : mg "isinstance" = none) (m_len : mg "len" = none) (m_list : mg "list" = none) (m_str : mg "str" = none) (m_tuple : mg "tuple" = none) : ∀ n, Kn P w K mg base "_law_bent" (3 + 1 * n) (sem__law_bent n)
  | 0 => Kn.less (kn_def (k := 2) (N := ["_law_urn_here", "_law_value", "_law_at", "_law_way", "_law_some"]) (ps := ["_law_urn_here", "_law_value"]) (sb := fun _ _ => .no) D ⟨rfl, rfl, rfl, by decide +kernel, rfl, by decide +kernel, by decide +kernel⟩ (fun _ _ _ _ _ _ us hl => match us, hl with | [_, _], _ => rfl) (fun cdv f A outer s H E B =>
    x_no)) (fun _ _ => .inl rfl)
  | n + 1 => by
    have G__law_bent := kn__law_bent_all D G__law_next G__law_of m_int m_isinstance m_len m_list m_str m_tuple n
    exact kn_def (k := 3 + 1 * n + 0) (N := ["_law_urn_here", "_law_value", "_law_at", "_law_way", "_law_some"]) (ps := ["_law_urn_here", "_law_value"]) (sb := sb__law_bent (sem__law_bent n)) D ⟨rfl, rfl, rfl, by decide +kernel, rfl, by decide +kernel, by decide +kernel⟩ (fun _ _ _ _ _ _ us hl => match us, hl with | [_, _], _ => rfl) (fun cdv f A outer s H E B =>
    (x_cons (x_if (PW.pt (w_and (s_test (s_isi (by rfl) m_isinstance (s_name (pv 1)) (by rfl) m_tuple (by decide +kernel)) (fun _ => rfl)) (w_and (t_neT B (s_name (pv 1)) (s_tup a_nil) rfl) (w_and1 (t_gt (s_call B G__law_next (by omega) (by rfl) (a_consC (s_name (pv 0)) (a_cons s_int a_nil))) s_int))))) (x_cons (x_par (ps_par B.cm B.nd rfl rfl (by decide) rfl rfl (a_cons (s_call B G__law_next (by omega) (by rfl) (a_consC (s_name (pv 0)) (a_cons (k_len B (by rfl) m_len (a_cons (s_name (pv 1)) a_nil)) a_nil))) (a_cons (s_call B G__law_next (by omega) (by rfl) (a_consC (s_name (pv 0)) (a_cons s_int a_nil))) a_nil)) rfl)) (x_cons (x_if (t_eq B (s_name (pv 3)) s_int) (x_one (x_ret (s_add (s_sl (s_name (pv 1)) o_none (o_some (s_name (pv 2)))) (s_sl (s_name (pv 1)) (o_some (s_addB (s_name (pv 2)) s_int)) o_none)))) x_nil) (x_cons (x_if (t_eq B (s_name (pv 3)) s_int) (x_one (x_ret (s_add (s_add (s_sl (s_name (pv 1)) o_none (o_some (s_name (pv 2)))) (s_sl (s_name (pv 1)) (o_some (s_name (pv 2))) (o_some (s_addB (s_name (pv 2)) s_int)))) (s_sl (s_name (pv 1)) (o_some (s_name (pv 2))) o_none)))) x_nil) (x_cons (x_if (t_eq B (s_name (pv 3)) s_int) (x_one (x_ret (s_add (s_sl (s_name (pv 1)) o_none (o_some (s_name (pv 2)))) (s_turn B.hK (s_sl (s_name (pv 1)) (o_some (s_name (pv 2))) o_none))))) x_nil) (x_one (x_ret (s_add (s_add (s_sl (s_name (pv 1)) o_none (o_some (s_name (pv 2)))) (s_tup (a_cons (s_call B G__law_bent (by omega) (by rfl) (a_consC (s_name (pv 0)) (a_cons (s_ix (s_name (pv 1)) (s_name (pv 2)) (fun _ _ => rfl)) a_nil))) a_nil))) (s_sl (s_name (pv 1)) (o_some (s_addB (s_name (pv 2)) s_int)) o_none)))))))) x_nil) (x_cons (x_asg (pv_frz (s_lst (a_cons s_none (a_cons s_bool (a_cons s_bool (a_cons s_int (a_cons s_int (a_cons (s_neg s_int) (a_cons (s_pow s_int s_int) (a_cons (s_add (s_pow s_int s_int) s_int) (a_cons s_str (a_cons s_str (a_cons s_str (a_cons s_str (a_cons s_str a_nil))))))))))))))) (t_name (pg_name (i := 4) B.nd rfl (by first | exact .inl rfl | exact .inr rfl)))) (x_cons (x_asg (pv_frz (s_add (s_name (pv 4)) (s_lst (a_cons s_str (a_cons (s_tup a_nil) (a_cons (s_lst a_nil) (a_cons s_d0 a_nil))))))) (t_name (pg_name (i := 4) B.nd rfl (by first | exact .inl rfl | exact .inr rfl)))) (x_cons (x_if (s_test (s_isi (by rfl) m_isinstance (s_name (pv 1)) (by rfl) m_tuple (by decide +kernel)) (fun _ => rfl)) (x_one (x_asg (pv_frz (s_add (s_name (pv 4)) (s_mulA (s_lst (a_cons (k_list (by rfl) m_list (a_cons (s_name (pv 1)) a_nil)) (a_cons (s_add (s_name (pv 1)) (s_tup (a_cons s_str a_nil))) (a_cons (s_add (s_name (pv 1)) (s_name (pv 1))) (a_cons (s_tup (a_cons (s_name (pv 1)) a_nil)) (a_cons (s_tup (a_cons s_str (a_cons s_int a_nil))) a_nil)))))) s_int))) (t_name (pg_name (i := 4) B.nd rfl (by first | exact .inl rfl | exact .inr rfl))))) x_nil) (x_cons (x_if (s_test (s_isi (by rfl) m_isinstance (s_name (pv 1)) (by rfl) m_str (by decide +kernel)) (fun _ => rfl)) (x_one (x_asg (pv_frz (s_add (s_name (pv 4)) (s_mulA (s_lst (a_cons (s_add (s_name (pv 1)) s_str) (a_cons (y_upper (s_name (pv 1))) (a_cons (s_add (s_name (pv 1)) s_str) (a_cons (s_sl (s_name (pv 1)) (o_some s_int) o_none) (a_cons (s_tup (a_cons (s_name (pv 1)) a_nil)) (a_cons (s_lst (a_cons (s_name (pv 1)) a_nil)) a_nil))))))) s_int))) (t_name (pg_name (i := 4) B.nd rfl (by first | exact .inl rfl | exact .inr rfl))))) x_nil) (x_cons (x_if (s_test (s_isi (by rfl) m_isinstance (s_name (pv 1)) (by rfl) m_int (by decide +kernel)) (fun _ => rfl)) (x_one (x_asg (pv_frz (s_add (s_name (pv 4)) (s_mulA (s_lst (a_cons (s_addB (s_name (pv 1)) s_int) (a_cons (s_subB (s_name (pv 1)) s_int) (a_cons (s_subR s_int (s_name (pv 1))) (a_cons (v_eq B (s_name (pv 1)) s_int) (a_cons (k_strB (by rfl) m_str (a_cons (s_name (pv 1)) a_nil)) a_nil)))))) s_int))) (t_name (pg_name (i := 4) B.nd rfl (by first | exact .inl rfl | exact .inr rfl))))) x_nil) (x_one (x_ret (s_call B G__law_of (by omega) (by rfl) (a_consC (s_name (pv 0)) (a_cons (s_name (pv 4)) a_nil))))))))))))
theorem kn__law_bent (D : Df K mg "_law_bent" st__law_bent) (G__law_next : Kn P w K mg base "_law_next" 1 sem__law_next) (G__law_of : Kn P w K mg base "_law_of" 2 sem__law_of) (m_int : mg "int" = none) (m_isinstance : mg "isinstance" = none) (m_len : mg "len" = none) (m_list : mg "list" = none) (m_str : mg "str" = none) (m_tuple : mg "tuple" = none) : Kn P w K mg base "_law_bent" 23 (sem__law_bent 20) := kn__law_bent_all D G__law_next G__law_of m_int m_isinstance m_len m_list m_str m_tuple 20
noncomputable def sb_has_form : Sv := (sSeq (sIf (bOr (bNot (mTru (mIsi "tuple" (mN 0)))) (bOr (mCmp gEqT (mN 0) (mTup aNil)) (bNot (mTru (mIsi "str" (mBin fIx (mN 0) (mK (.int 0)))))))) (sRet (mK (.bool false))) sNil) (sSeq (sIf (mCmp gNe (mTabG [("call", 5), ("wait", 2), ("then", 3), ("fallback", 4), ("retry", 3), ("timeout", 3), ("race", 4), ("hedge", 4), ("both", 3)] (mBin fIx (mN 0) (mK (.int 0)))) (mCal (gLen) (aCons (mV (mN 0)) aNil))) (sRet (mK (.bool false))) sNil) (sSeq (sIf (mCmp gEq (mBin fIx (mN 0) (mK (.int 0))) (mK (.str "call"))) (sRet (mCall sem_is_call (aCons (mV (mN 0)) aNil))) sNil) (sRet (eOr (bV (mCmp (gIn true) (mBin fIx (mN 0) (mK (.int 0))) (mK (.tuple [.str "wait", .str "retry", .str "fallback", .str "timeout", .str "race", .str "hedge"])))) (mCall sem_has_number (aCons (mV (mBin fIx (mN 0) (mK (.int 0)))) (aCons (mV (mBin fIx (mN 0) (mK (.int 1)))) aNil))))))))
noncomputable def sem_has_form : Fs := bodyF 1 1 sb_has_form
theorem kn_has_form (D : Df K mg "has_form" st_has_form) (G_has_number : Kn P w K mg base "has_number" 2 sem_has_number) (G_is_call : Kn P w K mg base "is_call" 3 sem_is_call) (m_isinstance : mg "isinstance" = none) (m_len : mg "len" = none) (m_str : mg "str" = none) (m_tuple : mg "tuple" = none) (c_CALL : ∃ t, mg "CALL" = some (.str "call" t)) (tab_SIZES : TabC K w mg "SIZES" [("call", 5), ("wait", 2), ("then", 3), ("fallback", 4), ("retry", 3), ("timeout", 3), ("race", 4), ("hedge", 4), ("both", 3)]) (tup_NUMBERED : TupC K mg "NUMBERED" ["wait", "retry", "fallback", "timeout", "race", "hedge"]) : Kn P w K mg base "has_form" 4 sem_has_form :=
  kn_def (k := 3) (N := ["value"]) (ps := ["value"]) (sb := sb_has_form) D ⟨rfl, rfl, rfl, by decide +kernel, rfl, by decide +kernel, by decide +kernel⟩ (fun _ _ _ _ _ _ us hl => match us, hl with | [_], _ => rfl) (fun cdv f A outer s H E B =>
    (x_cons (x_if (PW.pt (w_or (s_notT (s_test (s_isi (by rfl) m_isinstance (s_name (pv 0)) (by rfl) m_tuple (by decide +kernel)) (fun _ => rfl))) (w_or (t_eqT B (s_name (pv 0)) (s_tup a_nil) rfl) (w_or1 (s_notT (s_test (s_isi (by rfl) m_isinstance (s_ix (s_name (pv 0)) s_int (fun _ _ => rfl)) (by rfl) m_str (by decide +kernel)) (fun _ => rfl))))))) (x_one (x_ret s_bool)) x_nil) (x_cons (x_if (t_ne B (s_tabG tab_SIZES (by rfl) (s_ix (s_name (pv 0)) s_int (fun _ _ => rfl)) ⟨by rfl, by rfl, by rfl, by rfl⟩) (k_len B (by rfl) m_len (a_cons (s_name (pv 0)) a_nil))) (x_one (x_ret s_bool)) x_nil) (x_cons (x_if (t_eq B (s_ix (s_name (pv 0)) s_int (fun _ _ => rfl)) (s_gs (by rfl) c_CALL)) (x_one (x_ret (s_call B G_is_call (by decide) (by rfl) (a_cons (s_name (pv 0)) a_nil)))) x_nil) (x_one (x_ret (s_or (v_inC (neg := true) op_notIn_seq B.hK tup_NUMBERED (by rfl) (s_ix (s_name (pv 0)) s_int (fun _ _ => rfl)) rfl) (s_one (s_call B G_has_number (by decide) (by rfl) (a_cons (s_ix (s_name (pv 0)) s_int (fun _ _ => rfl)) (a_cons (s_ix (s_name (pv 0)) s_int (fun _ _ => rfl)) a_nil)))))))))))
noncomputable def sb__law_is_plan : Sv := (sSeq (sPar [1, 2, 3] (aCons (mV (mLst (aCons (mV (mN 0)) aNil))) (aCons (mV (mK (.int 0))) (aCons (mVc (mLst aNil)) aNil)))) (sSeq (sFor (iRg1 (aCons (mV (mK (.int 21))) aNil)) (gNm 4) (sSeq (sAsg (gNm 2) (mV (mBin fAdd (mN 2) (mCal (gLen) (aCons (mV (mN 1)) aNil))))) (sSeq (sIf (bOr (mCmp (gI fun i j => decide (j < i)) (mN 2) (mK (.int 40))) (bAnd (mCmp gEq (mN 4) (mK (.int 20))) (mCmp gNeL (mN 1) (mLst aNil)))) (sRet (mK (.bool false))) sNil) (sSeq (sAsg (gNm 5) (mVc (mLst aNil))) (sSeq (sFor (iOf (mN 1)) (gNm 6) (sSeq (sIf (bNot (mTru (mCall sem__law_has_form (aCons (mV (mN 6)) aNil)))) (sRet (mK (.bool false))) sNil) (sSeq (sExp (mExt (mN 3) (mBin fMulA (mLst (aCons (mV (mBin fIx (mN 6) (mK (.int 1)))) aNil)) (mCal (g1 fInt) (aCons (mV (bV (mCmp gEq (mBin fIx (mN 6) (mK (.int 0))) (mK (.str "call"))))) aNil))))) (sExp (mExt (mN 5) (mCal (g1 fList) (aCons (mV (mCall sem__law_inner (aCons (mV (mN 6)) aNil))) aNil))))))) (sAsg (gNm 1) (mV (mN 5)))))))) (sRet (bV (mCmp gEq (mLoS (mN 3)) (mCal (gLen) (aCons (mV (mN 3)) aNil)))))))
noncomputable def sem__law_is_plan : Fs := bodyF 7 1 sb__law_is_plan
theorem kn__law_is_plan (D : Df K mg "_law_is_plan" st__law_is_plan) (G__law_has_form : Kn P w K mg base "_law_has_form" 3 sem__law_has_form) (G__law_inner : Kn P w K mg base "_law_inner" 1 sem__law_inner) (m_int : mg "int" = none) (m_len : mg "len" = none) (m_list : mg "list" = none) (m_range : mg "range" = none) (m_set : mg "set" = none) : Kn P w K mg base "_law_is_plan" 4 sem__law_is_plan :=
  kn_def (k := 3) (N := ["_law_value", "_law_level", "_law_many", "_law_marks", "_law_depth", "_law_lower", "_law_part_here"]) (ps := ["_law_value"]) (sb := sb__law_is_plan) D ⟨rfl, rfl, rfl, by decide +kernel, rfl, by decide +kernel, by decide +kernel⟩ (fun _ _ _ _ _ _ us hl => match us, hl with | [_], _ => rfl) (fun cdv f A outer s H E B =>
    (x_cons (x_par3 (ps_par3 B.cm B.nd rfl rfl rfl (by decide) (by decide) (by decide) rfl rfl rfl (a_cons (s_lst (a_cons (s_name (pv 0)) a_nil)) (a_cons s_int (a_consC (s_lst a_nil) a_nil))) rfl)) (x_cons (x_for B.hp B.cm (i_rng1 (by rfl) m_range (a_cons s_int a_nil)) (t_name (pg_name (i := 4) B.nd rfl (by first | exact .inl rfl | exact .inr rfl))) (x_cons (x_asg (pv_frz (s_add (s_name (pv 2)) (k_len B (by rfl) m_len (a_cons (s_name (pv 1)) a_nil)))) (t_name (pg_name (i := 2) B.nd rfl (by first | exact .inl rfl | exact .inr rfl)))) (x_cons (x_if (PW.pt (w_or (t_gt (s_name (pv 2)) s_int) (w_or1 (PW.pt (w_and (t_eq B (s_name (pv 4)) s_int) (w_and1 (t_neL B (s_name (pv 1)) (s_lst a_nil) rfl))))))) (x_one (x_ret s_bool)) x_nil) (x_cons (x_asg (pv_cell (s_lst a_nil)) (t_name (pg_name (i := 5) B.nd rfl (by first | exact .inl rfl | exact .inr rfl)))) (x_cons (x_for B.hp B.cm (i_seq (s_name (pv 1))) (t_name (pg_name (i := 6) B.nd rfl (by first | exact .inl rfl | exact .inr rfl))) (x_cons (x_if (s_notT (s_test (s_call B G__law_has_form (by decide) (by rfl) (a_cons (s_name (pv 6)) a_nil)) (fun _ => rfl))) (x_one (x_ret s_bool)) x_nil) (x_cons (x_expr (y_ext (s_name (pv 3)) (s_mulA (s_lst (a_cons (s_ix (s_name (pv 6)) s_int (fun _ _ => rfl)) a_nil)) (k_int (by rfl) m_int (a_cons (v_eq B (s_ix (s_name (pv 6)) s_int (fun _ _ => rfl)) s_str) a_nil))))) (x_one (x_expr (y_ext (s_name (pv 5)) (k_list (by rfl) m_list (a_cons (s_call B G__law_inner (by decide) (by rfl) (a_cons (s_name (pv 6)) a_nil)) a_nil)))))))) (x_one (x_asg (pv_frz (s_name (pv 5))) (t_name (pg_name (i := 1) B.nd rfl (by first | exact .inl rfl | exact .inr rfl)))))))))) (x_one (x_ret (v_eq B (k_los B (by rfl) m_len (by rfl) m_set (s_name (pv 3))) (k_len B (by rfl) m_len (a_cons (s_name (pv 3)) a_nil))))))))
noncomputable def sb__law_grown (sem : Fs) : Sv := (sSeq (sAsg (gPl (mN 1) (mK (.int 0))) (mV (mBin (fI (fun _ _ => true) fun i j => i - j) (mBin fIx (mN 1) (mK (.int 0))) (mK (.int 1))))) (sSeq (sAsg (gNm 4) (mV (mK (.str "call")))) (sSeq (sIf (bAnd (mCmp (gI fun i j => decide (j < i)) (mBin fIx (mN 1) (mK (.int 0))) (mK (.int 0))) (mCmp (gI fun i j => decide (j < i)) (mN 3) (mK (.int 0)))) (sSeq (sAsg (gNm 5) (mV (mLst (aCons (mV (mK (.str "call"))) (aCons (mV (mK (.str "timeout"))) (aCons (mV (mK (.str "retry"))) (aCons (mV (mK (.str "wait"))) (aCons (mV (mK (.str "timeout"))) aNil)))))))) (sSeq (sIf (mCmp (gI fun i j => decide (j < i)) (mBin fIx (mN 1) (mK (.int 0))) (mK (.int 1))) (sAsg (gNm 5) (mV (mBin fAdd (mN 5) (mLst (aCons (mV (mK (.str "then"))) (aCons (mV (mK (.str "fallback"))) (aCons (mV (mK (.str "race"))) (aCons (mV (mK (.str "hedge"))) (aCons (mV (mK (.str "both"))) (aCons (mV (mK (.str "fallback"))) (aCons (mV (mK (.str "race"))) (aCons (mV (mK (.str "hedge"))) aNil)))))))))))) sNil) (sAsg (gNm 4) (mV (mCall sem__law_of (aCons (mVc (mN 0)) (aCons (mV (mN 5)) aNil))))))) sNil) (sSeq (sIf (mCmp gEq (mN 4) (mK (.str "call"))) (sRet (mCall sem__law_call (aCons (mVc (mN 0)) (aCons (mV (mCall sem__law_label (aCons (mVc (mN 1)) aNil))) (aCons (mV (mN 2)) aNil))))) sNil) (sSeq (sIf (mCmp gEq (mN 4) (mK (.str "wait"))) (sRet (mTup (aCons (mV (mK (.str "wait"))) (aCons (mV (mCall sem__law_next (aCons (mVc (mN 0)) (aCons (mV (mBin fAdd (mN 2) (mK (.int 1)))) aNil)))) aNil)))) sNil) (sSeq (sAsg (gNm 6) (mV (eIf (mCmp gEq (mCall sem__law_next (aCons (mVc (mN 0)) (aCons (mV (mK (.int 9))) aNil))) (mK (.int 0))) (mK .none) (mCall sem__law_next (aCons (mVc (mN 0)) (aCons (mV (mBin fAdd (mN 2) (mK (.int 2)))) aNil)))))) (sSeq (sIf (mCmp gEq (mN 4) (mK (.str "retry"))) (sSeq (sAsg (gNm 7) (mV (mCal (g1 fTuple) (aCons (mV (mLc (iRg1 (aCons (mV (mCall sem__law_of (aCons (mVc (mN 0)) (aCons (mV (mLst (aCons (mV (mK (.int 1))) (aCons (mV (mK (.int 1))) (aCons (mV (mK (.int 2))) (aCons (mV (mK (.int 0))) aNil)))))) aNil)))) aNil)) (gNm 10) ttY (mCall sem__law_next (aCons (mVc (mN 0)) (aCons (mV (mK (.int 3))) aNil))) [10])) aNil)))) (sRet (mTup (aCons (mV (mK (.str "retry"))) (aCons (mV (mN 7)) (aCons (mV (mCall sem (aCons (mVc (mN 0)) (aCons (mVc (mN 1)) (aCons (mV (mN 2)) (aCons (mV (mBin (fI (fun _ _ => true) fun i j => i - j) (mN 3) (mK (.int 1)))) aNil)))))) aNil)))))) sNil) (sSeq (sIf (mCmp gEq (mN 4) (mK (.str "timeout"))) (sRet (mTup (aCons (mV (mK (.str "timeout"))) (aCons (mV (mN 6)) (aCons (mV (mCall sem (aCons (mVc (mN 0)) (aCons (mVc (mN 1)) (aCons (mV (mN 2)) (aCons (mV (mBin (fI (fun _ _ => true) fun i j => i - j) (mN 3) (mK (.int 1)))) aNil)))))) aNil))))) sNil) (sSeq (sAsg (gPl (mN 1) (mK (.int 0))) (mV (mBin (fI (fun _ _ => true) fun i j => i - j) (mBin fIx (mN 1) (mK (.int 0))) (mK (.int 1))))) (sSeq (sAsg (gNm 8) (mV (mCall sem (aCons (mVc (mN 0)) (aCons (mVc (mN 1)) (aCons (mV (mN 2)) (aCons (mV (mBin (fI (fun _ _ => true) fun i j => i - j) (mN 3) (mK (.int 1)))) aNil))))))) (sSeq (sAsg (gPl (mN 1) (mK (.int 0))) (mV (mBin fAdd (mBin fIx (mN 1) (mK (.int 0))) (mK (.int 1))))) (sSeq (sAsg (gNm 9) (mV (mCall sem (aCons (mVc (mN 0)) (aCons (mVc (mN 1)) (aCons (mV (mN 2)) (aCons (mV (mBin (fI (fun _ _ => true) fun i j => i - j) (mN 3) (mK (.int 1)))) aNil))))))) (sSeq (sIf (mCmp (gIn false) (mN 4) (mTup (aCons (mV (mK (.str "then"))) (aCons (mV (mK (.str "both"))) aNil)))) (sRet (mTup (aCons (mV (mN 4)) (aCons (mV (mN 8)) (aCons (mV (mN 9)) aNil))))) sNil) (sRet (mTup (aCons (mV (mN 4)) (aCons (mV (mN 6)) (aCons (mV (mN 8)) (aCons (mV (mN 9)) aNil)))))))))))))))))))
noncomputable def sem__law_grown : Nat → Fs
  | 0 => fun _ _ => .no
  | n + 1 => bodyF 11 4 (sb__law_grown (sem__law_grown n))
theorem kn__law_grown_all (D : Df K mg "_law_grown" st__law_grown) (G__law_call : Kn P w K mg base "_law_call" 3 sem__law_call) (G__law_label : Kn P w K mg base "_law_label" 1 sem__law_label) (G__law_next : Kn P w K mg base "_law_next" 1 sem__law_next) (G__law_of : Kn P w K mg base "_law_of" 2 sem__law_of) (m_range : mg "range" = none) (m_tuple : mg "tuple" = none) : ∀ n, Kn P w K mg base "_law_grown" (4 + 1 * n) (sem__law_grown n)
  | 0 => Kn.less (kn_def (k := 3) (N := ["_law_urn_here", "_law_left", "_law_longest", "_law_deep", "_law_kind", "_law_some", "_law_number", "_law_pauses", "_law_first", "_law_second", "_law_turn"]) (ps := ["_law_urn_here", "_law_left", "_law_longest", "_law_deep"]) (sb := fun _ _ => .no) D ⟨rfl, rfl, rfl, by decide +kernel, rfl, by decide +kernel, by decide +kernel⟩ (fun _ _ _ _ _ _ us hl => match us, hl with | [_, _, _, _], _ => rfl) (fun cdv f A outer s H E B =>
    x_no)) (fun _ _ => .inl rfl)
  | n + 1 => by
    have G__law_grown := kn__law_grown_all D G__law_call G__law_label G__law_next G__law_of m_range m_tuple n
    exact kn_def (k := 4 + 1 * n + 0) (N := ["_law_urn_here", "_law_left", "_law_longest", "_law_deep", "_law_kind", "_law_some", "_law_number", "_law_pauses", "_law_first", "_law_second", "_law_turn"]) (ps := ["_law_urn_here", "_law_left", "_law_longest", "_law_deep"]) (sb := sb__law_grown (sem__law_grown n)) D ⟨rfl, rfl, rfl, by decide +kernel, rfl, by decide +kernel, by decide +kernel⟩ (fun _ _ _ _ _ _ us hl => match us, hl with | [_, _, _, _], _ => rfl) (fun cdv f A outer s H E B =>
    (x_cons (x_asg (pv_frz (s_sub (s_ix (s_name (pv 1)) s_int (fun _ _ => rfl)) s_int)) (t_pl (s_name (pv 1)) s_int)) (x_cons (x_asg (pv_frz s_str) (t_name (pg_name (i := 4) B.nd rfl (by first | exact .inl rfl | exact .inr rfl)))) (x_cons (x_if (PW.pt (w_and (t_gt (s_ix (s_name (pv 1)) s_int (fun _ _ => rfl)) s_int) (w_and1 (t_gt (s_name (pv 3)) s_int)))) (x_cons (x_asg (pv_frz (s_lst (a_cons s_str (a_cons s_str (a_cons s_str (a_cons s_str (a_cons s_str a_nil))))))) (t_name (pg_name (i := 5) B.nd rfl (by first | exact .inl rfl | exact .inr rfl)))) (x_cons (x_if (t_gt (s_ix (s_name (pv 1)) s_int (fun _ _ => rfl)) s_int) (x_one (x_asg (pv_frz (s_add (s_name (pv 5)) (s_lst (a_cons s_str (a_cons s_str (a_cons s_str (a_cons s_str (a_cons s_str (a_cons s_str (a_cons s_str (a_cons s_str a_nil))))))))))) (t_name (pg_name (i := 5) B.nd rfl (by first | exact .inl rfl | exact .inr rfl))))) x_nil) (x_one (x_asg (pv_frz (s_call B G__law_of (by omega) (by rfl) (a_consC (s_name (pv 0)) (a_cons (s_name (pv 5)) a_nil)))) (t_name (pg_name (i := 4) B.nd rfl (by first | exact .inl rfl | exact .inr rfl))))))) x_nil) (x_cons (x_if (t_eq B (s_name (pv 4)) s_str) (x_one (x_ret (s_call B G__law_call (by omega) (by rfl) (a_consC (s_name (pv 0)) (a_cons (s_call B G__law_label (by omega) (by rfl) (a_consC (s_name (pv 1)) a_nil)) (a_cons (s_name (pv 2)) a_nil)))))) x_nil) (x_cons (x_if (t_eq B (s_name (pv 4)) s_str) (x_one (x_ret (s_tup (a_cons s_str (a_cons (s_call B G__law_next (by omega) (by rfl) (a_consC (s_name (pv 0)) (a_cons (s_add (s_name (pv 2)) s_int) a_nil))) a_nil))))) x_nil) (x_cons (x_asg (pv_frz (s_ifE (t_eq B (s_call B G__law_next (by omega) (by rfl) (a_consC (s_name (pv 0)) (a_cons s_int a_nil))) s_int) s_none (s_call B G__law_next (by omega) (by rfl) (a_consC (s_name (pv 0)) (a_cons (s_add (s_name (pv 2)) s_int) a_nil))))) (t_name (pg_name (i := 6) B.nd rfl (by first | exact .inl rfl | exact .inr rfl)))) (x_cons (x_if (t_eq B (s_name (pv 4)) s_str) (x_cons (x_asg (pv_frz (k_tuple (by rfl) m_tuple (a_cons (s_lc (own := [("_law_turn", 10)]) B.cm B.nd (i_rng1 (by rfl) m_range (a_cons (s_call B G__law_of (by omega) (by rfl) (a_consC (s_name (pv 0)) (a_cons (s_lst (a_cons s_int (a_cons s_int (a_cons s_int (a_cons s_int a_nil))))) a_nil))) a_nil)) (show BlkOk ["_law_urn_here", "_law_left", "_law_longest", "_law_deep", "_law_kind", "_law_some", "_law_number", "_law_pauses", "_law_first", "_law_second", "_law_turn"] (defScope st__law_grown) _ _ from ⟨rfl, by decide +kernel, by decide +kernel, by decide +kernel, by decide +kernel⟩) (fun s1 H1 A1 cl1 fp1 => (t_name (pg_name (i := 10) (B.blk s1 H1 _ _ fp1).nd rfl (by first | exact .inl rfl | exact .inr rfl)))) (fun s1 H1 A1 cl1 fp1 => pts_yes) (fun s1 H1 A1 cl1 fp1 => (s_call (B.blk s1 H1 _ _ fp1) G__law_next (by omega) (by rfl) (a_consC (s_name (pv 0)) (a_cons s_int a_nil)))) (by decide)) a_nil))) (t_name (pg_name (i := 7) B.nd rfl (by first | exact .inl rfl | exact .inr rfl)))) (x_one (x_ret (s_tup (a_cons s_str (a_cons (s_name (pv 7)) (a_cons (s_call B G__law_grown (by omega) (by rfl) (a_consC (s_name (pv 0)) (a_consC (s_name (pv 1)) (a_cons (s_name (pv 2)) (a_cons (s_sub (s_name (pv 3)) s_int) a_nil))))) a_nil))))))) x_nil) (x_cons (x_if (t_eq B (s_name (pv 4)) s_str) (x_one (x_ret (s_tup (a_cons s_str (a_cons (s_name (pv 6)) (a_cons (s_call B G__law_grown (by omega) (by rfl) (a_consC (s_name (pv 0)) (a_consC (s_name (pv 1)) (a_cons (s_name (pv 2)) (a_cons (s_sub (s_name (pv 3)) s_int) a_nil))))) a_nil)))))) x_nil) (x_cons (x_asg (pv_frz (s_sub (s_ix (s_name (pv 1)) s_int (fun _ _ => rfl)) s_int)) (t_pl (s_name (pv 1)) s_int)) (x_cons (x_asg (pv_frz (s_call B G__law_grown (by omega) (by rfl) (a_consC (s_name (pv 0)) (a_consC (s_name (pv 1)) (a_cons (s_name (pv 2)) (a_cons (s_sub (s_name (pv 3)) s_int) a_nil)))))) (t_name (pg_name (i := 8) B.nd rfl (by first | exact .inl rfl | exact .inr rfl)))) (x_cons (x_asg (pv_frz (s_add (s_ix (s_name (pv 1)) s_int (fun _ _ => rfl)) s_int)) (t_pl (s_name (pv 1)) s_int)) (x_cons (x_asg (pv_frz (s_call B G__law_grown (by omega) (by rfl) (a_consC (s_name (pv 0)) (a_consC (s_name (pv 1)) (a_cons (s_name (pv 2)) (a_cons (s_sub (s_name (pv 3)) s_int) a_nil)))))) (t_name (pg_name (i := 9) B.nd rfl (by first | exact .inl rfl | exact .inr rfl)))) (x_cons (x_if (t_in (s_name (pv 4)) (s_tup (a_cons s_str (a_cons s_str a_nil))) rfl) (x_one (x_ret (s_tup (a_cons (s_name (pv 4)) (a_cons (s_name (pv 8)) (a_cons (s_name (pv 9)) a_nil)))))) x_nil) (x_one (x_ret (s_tup (a_cons (s_name (pv 4)) (a_cons (s_name (pv 6)) (a_cons (s_name (pv 8)) (a_cons (s_name (pv 9)) a_nil)))))))))))))))))))))
theorem kn__law_grown (D : Df K mg "_law_grown" st__law_grown) (G__law_call : Kn P w K mg base "_law_call" 3 sem__law_call) (G__law_label : Kn P w K mg base "_law_label" 1 sem__law_label) (G__law_next : Kn P w K mg base "_law_next" 1 sem__law_next) (G__law_of : Kn P w K mg base "_law_of" 2 sem__law_of) (m_range : mg "range" = none) (m_tuple : mg "tuple" = none) : Kn P w K mg base "_law_grown" 16 (sem__law_grown 12) := kn__law_grown_all D G__law_call G__law_label G__law_next G__law_of m_range m_tuple 12
noncomputable def sb_is_policy : Sv := (sSeq (sPar [1, 2, 3] (aCons (mVc (mLst (aCons (mV (mTup (aCons (mV (mN 0)) (aCons (mV (mK (.int 1))) aNil)))) aNil))) (aCons (mVc mD0) (aCons (mV (mK (.int 0))) aNil)))) (sSeq (whGo (mCmp gNeL (mN 1) (mLst aNil)) (sSeq (sAsg (gTp 2 (gCons9 (gNm 4) (gCons9 (gNm 5) gNil9))) (mV (mPop (mN 1)))) (sSeq (sAugI 3 (mK (.int 1))) (sSeq (sIf (bOr (mCmp (gI fun i j => decide (j < i)) (mN 3) (mK (.int 40))) (bOr (mCmp (gI fun i j => decide (j < i)) (mN 5) (mK (.int 20))) (bNot (mTru (mCall sem_has_form (aCons (mV (mN 4)) aNil)))))) (sRet (mK (.bool false))) sNil) (sSeq (sIf (mCmp gEq (mBin fIx (mN 4) (mK (.int 0))) (mK (.str "call"))) (sSeq (sIf (mCmp (gInD false) (mBin fIx (mN 4) (mK (.int 1))) (mN 2)) (sRet (mK (.bool false))) sNil) (sDput (mN 2) (mBin fIx (mN 4) (mK (.int 1))) (mK (.bool true)))) sNil) (sExp (mExt (mN 1) (mLc (iOf (mCall sem_inner (aCons (mV (mN 4)) aNil))) (gNm 6) ttY (mTup (aCons (mV (mN 6)) (aCons (mV (mBin fAdd (mN 5) (mK (.int 1)))) aNil))) [6]))))))) 1048576) (sRet (mK (.bool true)))))
noncomputable def sem_is_policy : Fs := bodyF 7 1 sb_is_policy
theorem kn_is_policy (D : Df K mg "is_policy" st_is_policy) (G_has_form : Kn P w K mg base "has_form" 4 sem_has_form) (G_inner : Kn P w K mg base "inner" 1 sem_inner) (c_CALL : ∃ t, mg "CALL" = some (.str "call" t)) (c_MOST_DEPTH : ∃ t, mg "MOST_DEPTH" = some (.int 20 t)) (c_MOST_PARTS : ∃ t, mg "MOST_PARTS" = some (.int 40 t)) : Kn P w K mg base "is_policy" 5 sem_is_policy :=
  kn_def (k := 4) (N := ["value", "waiting", "seen", "many", "part", "depth", "lower"]) (ps := ["value"]) (sb := sb_is_policy) D ⟨rfl, rfl, rfl, by decide +kernel, rfl, by decide +kernel, by decide +kernel⟩ (fun _ _ _ _ _ _ us hl => match us, hl with | [_], _ => rfl) (fun cdv f A outer s H E B =>
    (x_cons (x_par3 (ps_par3 B.cm B.nd rfl rfl rfl (by decide) (by decide) (by decide) rfl rfl rfl (a_consC (s_lst (a_cons (s_tup (a_cons (s_name (pv 0)) (a_cons s_int a_nil))) a_nil)) (a_consC s_d0 (a_cons s_int a_nil))) rfl)) (x_cons (x_while 1048576 B.hp (t_neL B (s_name (pv 1)) (s_lst a_nil) rfl) (x_cons (x_asg (pv_frz (y_pop (s_name (pv 1)))) (t_tup B.cm (t_cons (t_name (pg_name (i := 4) B.nd rfl (by first | exact .inl rfl | exact .inr rfl))) (t_cons (t_name (pg_name (i := 5) B.nd rfl (by first | exact .inl rfl | exact .inr rfl))) t_nil)))) (x_cons (x_augI (i := 3) B.nd rfl (by first | exact .inl rfl | exact .inr rfl) s_int (by first | exact .inr rfl | exact .inl rfl)) (x_cons (x_if (PW.pt (w_or (t_gt (s_name (pv 3)) (s_gi (by rfl) c_MOST_PARTS)) (w_or (t_gt (s_name (pv 5)) (s_gi (by rfl) c_MOST_DEPTH)) (w_or1 (s_notT (s_test (s_call B G_has_form (by decide) (by rfl) (a_cons (s_name (pv 4)) a_nil)) (fun _ => rfl))))))) (x_one (x_ret s_bool)) x_nil) (x_cons (x_if (t_eq B (s_ix (s_name (pv 4)) s_int (fun _ _ => rfl)) (s_gs (by rfl) c_CALL)) (x_cons (x_if (t_dIn B (s_ix (s_name (pv 4)) s_int (fun _ _ => rfl)) (s_name (pv 2)) rfl) (x_one (x_ret s_bool)) x_nil) (x_one (x_dput B (s_name (pv 2)) (s_ix (s_name (pv 4)) s_int (fun _ _ => rfl)) s_bool))) x_nil) (x_one (x_expr (y_ext (s_name (pv 1)) (s_lc (own := [("lower", 6)]) B.cm B.nd (i_seq (s_call B G_inner (by decide) (by rfl) (a_cons (s_name (pv 4)) a_nil))) (show BlkOk ["value", "waiting", "seen", "many", "part", "depth", "lower"] (defScope st_is_policy) _ _ from ⟨rfl, by decide +kernel, by decide +kernel, by decide +kernel, by decide +kernel⟩) (fun s1 H1 A1 cl1 fp1 => (t_name (pg_name (i := 6) (B.blk s1 H1 _ _ fp1).nd rfl (by first | exact .inl rfl | exact .inr rfl)))) (fun s1 H1 A1 cl1 fp1 => pts_yes) (fun s1 H1 A1 cl1 fp1 => (s_tup (a_cons (s_name (pv 6)) (a_cons (s_add (s_name (pv 5)) s_int) a_nil)))) (by decide)))))))))) (x_one (x_ret s_bool)))))
noncomputable def sb_check_policy : Sv := (sIf (bNot (mTru (mCall sem_is_policy (aCons (mV (mN 0)) aNil)))) (sRaise1 "InvalidPolicy" "value" (aCons (mV (mN 0)) aNil)) sNil)
noncomputable def sem_check_policy : Fs := bodyF 1 1 sb_check_policy
theorem kn_check_policy (D : Df K mg "check_policy" st_check_policy) (G_is_policy : Kn P w K mg base "is_policy" 5 sem_is_policy) (g_InvalidPolicy : mg "InvalidPolicy" = some (.ref (He.ga K "InvalidPolicy"))) (txt_InvalidPolicy : Cfvalue.Txt K (He.ga K "InvalidPolicy") (He.ma K (He.ga K "InvalidPolicy") "__init__") "InvalidPolicy.__init__") : Kn P w K mg base "check_policy" 6 sem_check_policy :=
  kn_def (k := 5) (N := ["value"]) (ps := ["value"]) (sb := sb_check_policy) D ⟨rfl, rfl, rfl, by decide +kernel, rfl, by decide +kernel, by decide +kernel⟩ (fun _ _ _ _ _ _ us hl => match us, hl with | [_], _ => rfl) (fun cdv f A outer s H E B =>
    (x_one (x_if (s_notT (s_test (s_call B G_is_policy (by decide) (by rfl) (a_cons (s_name (pv 0)) a_nil)) (fun _ => rfl))) (x_one (x_raise_value B txt_InvalidPolicy g_InvalidPolicy (by rfl) (a_cons (s_name (pv 0)) a_nil))) x_nil)))
noncomputable def sb__law_policy : Sv := (sRet (mCall (sem__law_grown 12) (aCons (mVc (mN 0)) (aCons (mVc (mLst (aCons (mV (mN 1)) (aCons (mV (mK (.int 0))) (aCons (mV (mCall sem__law_of (aCons (mVc (mN 0)) (aCons (mV (mLst (aCons (mV (mK (.str ""))) (aCons (mV (mK (.str "c"))) (aCons (mV (mK (.str "call"))) aNil))))) aNil)))) aNil))))) (aCons (mV (mN 2)) (aCons (mV (mK (.int 8))) aNil))))))
noncomputable def sem__law_policy : Fs := bodyF 3 3 sb__law_policy
theorem kn__law_policy (D : Df K mg "_law_policy" st__law_policy) (G__law_grown : Kn P w K mg base "_law_grown" 16 (sem__law_grown 12)) (G__law_of : Kn P w K mg base "_law_of" 2 sem__law_of) : Kn P w K mg base "_law_policy" 17 sem__law_policy :=
  kn_def (k := 16) (N := ["_law_urn_here", "_law_most", "_law_longest"]) (ps := ["_law_urn_here", "_law_most", "_law_longest"]) (sb := sb__law_policy) D ⟨rfl, rfl, rfl, by decide +kernel, rfl, by decide +kernel, by decide +kernel⟩ (fun _ _ _ _ _ _ us hl => match us, hl with | [_, _, _], _ => rfl) (fun cdv f A outer s H E B =>
    (x_one (x_ret (s_call B G__law_grown (by decide) (by rfl) (a_consC (s_name (pv 0)) (a_consC (s_lst (a_cons (s_name (pv 1)) (a_cons s_int (a_cons (s_call B G__law_of (by decide) (by rfl) (a_consC (s_name (pv 0)) (a_cons (s_lst (a_cons s_str (a_cons s_str (a_cons s_str a_nil)))) a_nil))) a_nil)))) (a_cons (s_name (pv 2)) (a_cons s_int a_nil))))))))
noncomputable def sb_replaced : Sv := (sSeq (sExp (mCall sem_check_part (aCons (mV (mN 0)) (aCons (mV (mN 1)) aNil)))) (sSeq (sAsg (gNm 3) (mV (mCall (sem_put_at 25) (aCons (mV (mN 0)) (aCons (mV (mN 1)) (aCons (mV (mN 2)) aNil)))))) (sSeq (sExp (mCall sem_check_policy (aCons (mV (mN 3)) aNil))) (sRet (mN 3)))))
noncomputable def sem_replaced : Fs := bodyF 4 3 sb_replaced
theorem kn_replaced (D : Df K mg "replaced" st_replaced) (G_check_part : Kn P w K mg base "check_part" 2 sem_check_part) (G_check_policy : Kn P w K mg base "check_policy" 6 sem_check_policy) (G_put_at : Kn P w K mg base "put_at" 27 (sem_put_at 25)) : Kn P w K mg base "replaced" 28 sem_replaced :=
  kn_def (k := 27) (N := ["policy", "path", "part", "found"]) (ps := ["policy", "path", "part"]) (sb := sb_replaced) D ⟨rfl, rfl, rfl, by decide +kernel, rfl, by decide +kernel, by decide +kernel⟩ (fun _ _ _ _ _ _ us hl => match us, hl with | [_, _, _], _ => rfl) (fun cdv f A outer s H E B =>
    (x_cons (x_expr (s_call B G_check_part (by decide) (by rfl) (a_cons (s_name (pv 0)) (a_cons (s_name (pv 1)) a_nil)))) (x_cons (x_asg (pv_frz (s_call B G_put_at (by decide) (by rfl) (a_cons (s_name (pv 0)) (a_cons (s_name (pv 1)) (a_cons (s_name (pv 2)) a_nil))))) (t_name (pg_name (i := 3) B.nd rfl (by first | exact .inl rfl | exact .inr rfl)))) (x_cons (x_expr (s_call B G_check_policy (by decide) (by rfl) (a_cons (s_name (pv 3)) a_nil))) (x_one (x_ret (s_name (pv 3))))))))
noncomputable def sb__law_due : Sv := (sSeq (sIf (mCmp (gInL true) (mN 1) (mCall (sem__law_all_paths 25) (aCons (mV (mN 0)) aNil))) (sRet (mTup (aCons (mV (mK (.str "part"))) (aCons (mV (mN 1)) aNil)))) sNil) (sSeq (sAsg (gNm 3) (mV (mCall (sem__law_put 25) (aCons (mV (mN 0)) (aCons (mV (mN 1)) (aCons (mV (mN 2)) aNil)))))) (sRet (mTup (aCons (mV (eIf (mTru (mCall sem__law_is_plan (aCons (mV (mN 3)) aNil))) (mK (.str "returned")) (mK (.str "policy")))) (aCons (mV (mN 3)) aNil))))))
noncomputable def sem__law_due : Fs := bodyF 4 3 sb__law_due
theorem kn__law_due (D : Df K mg "_law_due" st__law_due) (G__law_all_paths : Kn P w K mg base "_law_all_paths" 27 (sem__law_all_paths 25)) (G__law_is_plan : Kn P w K mg base "_law_is_plan" 4 sem__law_is_plan) (G__law_put : Kn P w K mg base "_law_put" 27 (sem__law_put 25)) : Kn P w K mg base "_law_due" 28 sem__law_due :=
  kn_def (k := 27) (N := ["_law_plan", "_law_path", "_law_part_here", "_law_found"]) (ps := ["_law_plan", "_law_path", "_law_part_here"]) (sb := sb__law_due) D ⟨rfl, rfl, rfl, by decide +kernel, rfl, by decide +kernel, by decide +kernel⟩ (fun _ _ _ _ _ _ us hl => match us, hl with | [_, _, _], _ => rfl) (fun cdv f A outer s H E B =>
    (x_cons (x_if (t_notInL B (s_name (pv 1)) (s_call B G__law_all_paths (by decide) (by rfl) (a_cons (s_name (pv 0)) a_nil)) rfl) (x_one (x_ret (s_tup (a_cons s_str (a_cons (s_name (pv 1)) a_nil))))) x_nil) (x_cons (x_asg (pv_frz (s_call B G__law_put (by decide) (by rfl) (a_cons (s_name (pv 0)) (a_cons (s_name (pv 1)) (a_cons (s_name (pv 2)) a_nil))))) (t_name (pg_name (i := 3) B.nd rfl (by first | exact .inl rfl | exact .inr rfl)))) (x_one (x_ret (s_tup (a_cons (s_ifE (s_test (s_call B G__law_is_plan (by decide) (by rfl) (a_cons (s_name (pv 3)) a_nil)) (fun _ => rfl)) s_str s_str) (a_cons (s_name (pv 3)) a_nil))))))))
noncomputable def sb_with_number : Sv := (sSeq (sAsg (gNm 3) (mV (mCall sem_part_at (aCons (mV (mN 0)) (aCons (mV (mN 1)) aNil))))) (sSeq (sIf (mCmp (gIn true) (mBin fIx (mN 3) (mK (.int 0))) (mK (.tuple [.str "wait", .str "retry", .str "fallback", .str "timeout", .str "race", .str "hedge"]))) (sRaise1 "NoPart" "value" (aCons (mV (mN 1)) aNil)) sNil) (sRet (mCall sem_replaced (aCons (mV (mN 0)) (aCons (mV (mN 1)) (aCons (mV (mBin fAdd (mTup (aCons (mV (mBin fIx (mN 3) (mK (.int 0)))) (aCons (mV (mN 2)) aNil))) (mSl (mN 3) (oSome (mK (.int 2))) oNone))) aNil)))))))
noncomputable def sem_with_number : Fs := bodyF 4 3 sb_with_number
theorem kn_with_number (D : Df K mg "with_number" st_with_number) (G_part_at : Kn P w K mg base "part_at" 3 sem_part_at) (G_replaced : Kn P w K mg base "replaced" 28 sem_replaced) (g_NoPart : mg "NoPart" = some (.ref (He.ga K "NoPart"))) (tup_NUMBERED : TupC K mg "NUMBERED" ["wait", "retry", "fallback", "timeout", "race", "hedge"]) (txt_NoPart : Cfvalue.Txt K (He.ga K "NoPart") (He.ma K (He.ga K "NoPart") "__init__") "NoPart.__init__") : Kn P w K mg base "with_number" 29 sem_with_number :=
  kn_def (k := 28) (N := ["policy", "path", "number", "part"]) (ps := ["policy", "path", "number"]) (sb := sb_with_number) D ⟨rfl, rfl, rfl, by decide +kernel, rfl, by decide +kernel, by decide +kernel⟩ (fun _ _ _ _ _ _ us hl => match us, hl with | [_, _, _], _ => rfl) (fun cdv f A outer s H E B =>
    (x_cons (x_asg (pv_frz (s_call B G_part_at (by decide) (by rfl) (a_cons (s_name (pv 0)) (a_cons (s_name (pv 1)) a_nil)))) (t_name (pg_name (i := 3) B.nd rfl (by first | exact .inl rfl | exact .inr rfl)))) (x_cons (x_if (t_inC (neg := true) op_notIn_seq B.hK tup_NUMBERED (by rfl) (s_ix (s_name (pv 3)) s_int (fun _ _ => rfl)) rfl) (x_one (x_raise_value B txt_NoPart g_NoPart (by rfl) (a_cons (s_name (pv 1)) a_nil))) x_nil) (x_one (x_ret (s_call B G_replaced (by decide) (by rfl) (a_cons (s_name (pv 0)) (a_cons (s_name (pv 1)) (a_cons (s_add (s_tup (a_cons (s_ix (s_name (pv 3)) s_int (fun _ _ => rfl)) (a_cons (s_name (pv 2)) a_nil))) (s_sl (s_name (pv 3)) (o_some s_int) o_none)) a_nil)))))))))
noncomputable def sb__law_caught (T : Th) (m : Sto → Res Rv) : Sv := (sSeq (sAsg (gTp 2 (gCons9 (gNm 1) (gCons9 (gNm 2) gNil9))) (mV (mTup (aCons (mV (mK .none)) (aCons (mV (mK .none)) aNil))))) (sSeq (sTry 3 [("PolicyError", true), ("InvalidPolicy", true), ("NoPart", true)] (sAsg (gNm 2) (mV (mAct 0 T m))) (sAsg (gNm 1) (mV (mN 3)))) (sSeq (sIf (mIsNn false (mN 1)) (sRet (mTup (aCons (mV (mK (.str "returned"))) (aCons (mV (mN 2)) aNil)))) sNil) (sSeq (sIf (bAnd (mTru (mIsE [("PolicyError", false), ("InvalidPolicy", true), ("NoPart", false)] (mN 1))) (bNot (mTru (mIsE [("PolicyError", false), ("InvalidPolicy", false), ("NoPart", true)] (mN 1))))) (sRet (mTup (aCons (mV (mK (.str "policy"))) (aCons (mV (mErF ["InvalidPolicy", "NoPart"] "value" (mN 1))) aNil)))) sNil) (sSeq (sIf (bAnd (mTru (mIsE [("PolicyError", false), ("InvalidPolicy", false), ("NoPart", true)] (mN 1))) (bNot (mTru (mIsE [("PolicyError", false), ("InvalidPolicy", true), ("NoPart", false)] (mN 1))))) (sRet (mTup (aCons (mV (mK (.str "part"))) (aCons (mV (mErF ["InvalidPolicy", "NoPart"] "value" (mN 1))) aNil)))) sNil) (sRet (mTup (aCons (mV (mK (.str "other"))) (aCons (mV (mK .none)) aNil)))))))))
noncomputable def sem__law_caught (T : Th) (m : Sto → Res Rv) : Fs := bodyF 4 1 (sb__law_caught T m)
theorem kn__law_caught (D : Df K mg "_law_caught" st__law_caught) (m_isinstance : mg "isinstance" = none) (err_InvalidPolicy : ErrC K (He.ga K "InvalidPolicy")) (err_NoPart : ErrC K (He.ga K "NoPart")) (err_PolicyError : ErrC K (He.ga K "PolicyError")) (exm_InvalidPolicy_PolicyError : PySem.W.exmOne K (.ref (He.ga K "InvalidPolicy")) (.ref (He.ga K "PolicyError")) = some true) (exm_NoPart_PolicyError : PySem.W.exmOne K (.ref (He.ga K "NoPart")) (.ref (He.ga K "PolicyError")) = some true) (exm_PolicyError_PolicyError : PySem.W.exmOne K (.ref (He.ga K "PolicyError")) (.ref (He.ga K "PolicyError")) = some true) (g_InvalidPolicy : mg "InvalidPolicy" = some (.ref (He.ga K "InvalidPolicy"))) (g_NoPart : mg "NoPart" = some (.ref (He.ga K "NoPart"))) (g_PolicyError : mg "PolicyError" = some (.ref (He.ga K "PolicyError"))) (isN_InvalidPolicy : PySem.W.kitAny K (.type "NoneType") [.ref (He.ga K "InvalidPolicy")] = some false) (isN_NoPart : PySem.W.kitAny K (.type "NoneType") [.ref (He.ga K "NoPart")] = some false) (is_InvalidPolicy_InvalidPolicy : PySem.W.kitAny K (.ref (He.ga K "InvalidPolicy")) [.ref (He.ga K "InvalidPolicy")] = some true) (is_InvalidPolicy_NoPart : PySem.W.kitAny K (.ref (He.ga K "InvalidPolicy")) [.ref (He.ga K "NoPart")] = some false) (is_NoPart_InvalidPolicy : PySem.W.kitAny K (.ref (He.ga K "NoPart")) [.ref (He.ga K "InvalidPolicy")] = some false) (is_NoPart_NoPart : PySem.W.kitAny K (.ref (He.ga K "NoPart")) [.ref (He.ga K "NoPart")] = some true) (is_PolicyError_InvalidPolicy : PySem.W.kitAny K (.ref (He.ga K "PolicyError")) [.ref (He.ga K "InvalidPolicy")] = some false) (is_PolicyError_NoPart : PySem.W.kitAny K (.ref (He.ga K "PolicyError")) [.ref (He.ga K "NoPart")] = some false) (noat_InvalidPolicy_value : PySem.W.findIn K (.ref (He.ga K "InvalidPolicy")) "value" = some none) (noat_NoPart_value : PySem.W.findIn K (.ref (He.ga K "NoPart")) "value" = some none) : KnL P w K mg base "_law_caught" 30 sem__law_caught :=
  kn_defL (k := 30) (N := ["_law_ask", "_law_caught_here", "_law_found", "error"]) (a := "_law_ask") (sb := sb__law_caught) D ⟨rfl, rfl, rfl, by decide +kernel, rfl, by decide +kernel, by decide +kernel⟩ (fun _ _ _ _ _ _ us hl => match us, hl with | [_], _ => rfl) (fun T m cdv f A outer s H E act B =>
    (x_cons (x_asg (pv_frz (s_tup (a_cons s_none (a_cons s_none a_nil)))) (t_tup B.cm (t_cons (t_name (pg_name (i := 1) B.nd rfl (by first | exact .inl rfl | exact .inr rfl))) (t_cons (t_name (pg_name (i := 2) B.nd rfl (by first | exact .inl rfl | exact .inr rfl))) t_nil)))) (x_cons (x_tryAs (i := 3) (cat := [("PolicyError", true), ("InvalidPolicy", true), ("NoPart", true)]) B rfl rfl rfl rfl (by rfl) (by decide) g_PolicyError (cat_cons exm_PolicyError_PolicyError (cat_cons exm_InvalidPolicy_PolicyError (cat_cons exm_NoPart_PolicyError cat_nil))) (fun W1 pn1 xe1 Bt1 => (x_one (x_asg (pv_frz (act _ _ _ _ _ _ _ _ 0 _ _ _ Bt1 rfl (by first | exact .inl rfl | exact .inr (.inl rfl)) (by decide) (by decide))) (t_name (pg_name (i := 2) Bt1.nd rfl (by first | exact .inl rfl | exact .inr rfl)))))) (fun _ _ => (x_one (x_asg (pv_frz (s_name (pv 3))) (t_name (pg_name (i := 1) B.nd rfl (by first | exact .inl rfl | exact .inr rfl))))))) (x_cons (x_if (t_isNn (s_name (pv 1))) (x_one (x_ret (s_tup (a_cons s_str (a_cons (s_name (pv 2)) a_nil))))) x_nil) (x_cons (x_if (PW.pt (w_and (s_test (s_isE (cat := [("PolicyError", false), ("InvalidPolicy", true), ("NoPart", false)]) B.hK (by rfl) m_isinstance (s_name (pv 1)) (by rfl) g_InvalidPolicy (cat_cons ⟨err_PolicyError, is_PolicyError_InvalidPolicy⟩ (cat_cons ⟨err_InvalidPolicy, is_InvalidPolicy_InvalidPolicy⟩ (cat_cons ⟨err_NoPart, is_NoPart_InvalidPolicy⟩ cat_nil))) isN_InvalidPolicy) (fun _ => rfl)) (w_and1 (s_notT (s_test (s_isE (cat := [("PolicyError", false), ("InvalidPolicy", false), ("NoPart", true)]) B.hK (by rfl) m_isinstance (s_name (pv 1)) (by rfl) g_NoPart (cat_cons ⟨err_PolicyError, is_PolicyError_NoPart⟩ (cat_cons ⟨err_InvalidPolicy, is_InvalidPolicy_NoPart⟩ (cat_cons ⟨err_NoPart, is_NoPart_NoPart⟩ cat_nil))) isN_NoPart) (fun _ => rfl)))))) (x_one (x_ret (s_tup (a_cons s_str (a_cons (s_erF B.hK (s_name (pv 1)) (zs_cons ⟨err_InvalidPolicy, noat_InvalidPolicy_value⟩ (zs_cons ⟨err_NoPart, noat_NoPart_value⟩ zs_nil))) a_nil))))) x_nil) (x_cons (x_if (PW.pt (w_and (s_test (s_isE (cat := [("PolicyError", false), ("InvalidPolicy", false), ("NoPart", true)]) B.hK (by rfl) m_isinstance (s_name (pv 1)) (by rfl) g_NoPart (cat_cons ⟨err_PolicyError, is_PolicyError_NoPart⟩ (cat_cons ⟨err_InvalidPolicy, is_InvalidPolicy_NoPart⟩ (cat_cons ⟨err_NoPart, is_NoPart_NoPart⟩ cat_nil))) isN_NoPart) (fun _ => rfl)) (w_and1 (s_notT (s_test (s_isE (cat := [("PolicyError", false), ("InvalidPolicy", true), ("NoPart", false)]) B.hK (by rfl) m_isinstance (s_name (pv 1)) (by rfl) g_InvalidPolicy (cat_cons ⟨err_PolicyError, is_PolicyError_InvalidPolicy⟩ (cat_cons ⟨err_InvalidPolicy, is_InvalidPolicy_InvalidPolicy⟩ (cat_cons ⟨err_NoPart, is_NoPart_InvalidPolicy⟩ cat_nil))) isN_InvalidPolicy) (fun _ => rfl)))))) (x_one (x_ret (s_tup (a_cons s_str (a_cons (s_erF B.hK (s_name (pv 1)) (zs_cons ⟨err_InvalidPolicy, noat_InvalidPolicy_value⟩ (zs_cons ⟨err_NoPart, noat_NoPart_value⟩ zs_nil))) a_nil))))) x_nil) (x_one (x_ret (s_tup (a_cons s_str (a_cons s_none a_nil)))))))))))
noncomputable def sb_law : Sv := (sSeq (sFor (iRg1 (aCons (mV (mCal (gII (fun i j => if j > i then j else i)) (aCons (mV (mK (.int 1))) (aCons (mV (mCal (gII (fun i j => if j < i then j else i)) (aCons (mV (mK (.int 3))) (aCons (mV (mCal (gLen) (aCons (mV (mN 0)) aNil))) aNil)))) aNil)))) aNil)) (gNm 1) (sSeq (sAsg (gNm 2) (mVc (mCall sem__law_urn (aCons (mV (mN 0)) (aCons (mV (mN 1)) aNil))))) (sSeq (sAsg (gNm 3) (mV (mCall sem__law_policy (aCons (mVc (mN 2)) (aCons (mV (mK (.int 12))) (aCons (mV (mK (.int 6))) aNil)))))) (sSeq (sPar [4, 5] (aCons (mV (mCall (sem__law_all_paths 25) (aCons (mV (mN 3)) aNil))) (aCons (mV (mCal (g1 fRepr) (aCons (mV (mN 3)) aNil))) aNil))) (sSeq (sFor (iOf (mBin fAdd (mN 4) (mLst (aCons (mV (mTup (aCons (mV (mK (.int 2))) aNil))) (aCons (mV (mBin fMulA (mTup (aCons (mV (mK (.int 0))) aNil)) (mK (.int 9)))) (aCons (mV (mBin fAdd (mBin fIx (mN 4) (mNeg (mK (.int 1)))) (mTup (aCons (mV (mK (.int 1))) aNil)))) aNil)))))) (gNm 6) (sSeq (sAsg (gNm 7) (mVc (mLst (aCons (mV (mCall sem__law_part (aCons (mV (mN 3)) (aCons (mV (mCall sem__law_of (aCons (mVc (mN 2)) (aCons (mV (mN 4)) aNil)))) aNil)))) (aCons (mV (mTup (aCons (mV (mK (.str "wait"))) (aCons (mV (mK (.int 4))) aNil)))) (aCons (mV (mTup (aCons (mV (mK (.str "timeout"))) (aCons (mV (mK (.int 1))) (aCons (mV (mTup (aCons (mV (mK (.str "wait"))) (aCons (mV (mK (.int 4))) aNil)))) aNil))))) (aCons (mV (mK .none)) (aCons (mV (mK (.str "wait"))) aNil)))))))) (sSeq (sExp (mApp (mN 7) (mCall (sem__law_bent 20) (aCons (mVc (mN 2)) (aCons (mV (mTup (aCons (mV (mK (.str "race"))) (aCons (mV (mK (.int 1))) (aCons (mV (mTup (aCons (mV (mK (.str "wait"))) (aCons (mV (mK (.int 2))) aNil)))) (aCons (mV (mTup (aCons (mV (mK (.str "wait"))) (aCons (mV (mK (.int 3))) aNil)))) aNil)))))) aNil))))) (sSeq (sFor (iOf (mN 7)) (gNm 8) (sIf (mCmp gNe (mCal (g1 fRepr) (aCons (mV (mLam 1 "law" "law.<locals>.<lambda>" sem__law_caught (mCall sem_replaced (aCons (mV (mN 3)) (aCons (mV (mN 6)) (aCons (mV (mN 8)) aNil)))))) aNil)) (mCal (g1 fRepr) (aCons (mV (mCall sem__law_due (aCons (mV (mN 3)) (aCons (mV (mN 6)) (aCons (mV (mN 8)) aNil))))) aNil))) (sRet (mK (.bool false))) sNil)) (sSeq (sAsg (gNm 9) (mV (mLst (aCons (mV (mK .none)) (aCons (mV (mK (.int 0))) (aCons (mV (mK (.int 7))) (aCons (mV (mNeg (mK (.int 1)))) (aCons (mV (mK (.bool true))) (aCons (mV (mTup aNil)) (aCons (mV (mTup (aCons (mV (mK (.int 1))) (aCons (mV (mK (.int 2))) aNil)))) (aCons (mV (mTup (aCons (mV (mK (.int 1))) (aCons (mV (mK .none)) aNil)))) (aCons (mV (mLst (aCons (mV (mK (.int 1))) aNil))) (aCons (mV (mK (.str "5"))) (aCons (mV (mBin fAdd (mBin (fI pPow fun i j => i ^ j.toNat) (mK (.int 10)) (mK (.int 9))) (mK (.int 1)))) (aCons (mV (mBin fMulA (mTup (aCons (mV (mK (.int 0))) aNil)) (mK (.int 6)))) aNil))))))))))))))) (sFor (iOf (mN 9)) (gNm 10) (sSeq (sAsg (gNm 11) (mV (mTup (aCons (mV (mK (.str "part"))) (aCons (mV (mN 6)) aNil))))) (sSeq (sIf (bAnd (mCmp (gInL false) (mN 6) (mN 4)) (mCmp (gIn true) (mBin fIx (mCall sem__law_part (aCons (mV (mN 3)) (aCons (mV (mN 6)) aNil))) (mK (.int 0))) (mTup (aCons (mV (mK (.str "call"))) (aCons (mV (mK (.str "then"))) (aCons (mV (mK (.str "both"))) aNil)))))) (sSeq (sAsg (gNm 8) (mV (mCall sem__law_part (aCons (mV (mN 3)) (aCons (mV (mN 6)) aNil))))) (sAsg (gNm 11) (mV (mCall sem__law_due (aCons (mV (mN 3)) (aCons (mV (mN 6)) (aCons (mV (mBin fAdd (mTup (aCons (mV (mBin fIx (mN 8) (mK (.int 0)))) (aCons (mV (mN 10)) aNil))) (mSl (mN 8) (oSome (mK (.int 2))) oNone))) aNil))))))) sNil) (sIf (mCmp gNe (mCal (g1 fRepr) (aCons (mV (mLam 1 "law" "law.<locals>.<lambda>" sem__law_caught (mCall sem_with_number (aCons (mV (mN 3)) (aCons (mV (mN 6)) (aCons (mV (mN 10)) aNil)))))) aNil)) (mCal (g1 fRepr) (aCons (mV (mN 11)) aNil))) (sRet (mK (.bool false))) sNil))))))))) (sIf (mCmp gNe (mCal (g1 fRepr) (aCons (mV (mN 3)) aNil)) (mN 5)) (sRet (mK (.bool false))) sNil)))))) (sRet (mK (.bool true))))
noncomputable def sem_law : Fs := bodyF 12 1 sb_law
theorem fn_law {f : Addr} {fd : FuncData} (FL : FunD K "law" "law" (defArgs st_law) (defBody st_law) (defScope st_law) [] [] f fd) (hfl : f = He.ga K "law") (TB_law : LamX.TabB base mg (He.cT K (dfn "law")).1 (He.cT K (dfn "law")).2) (G__law_all_paths : Kn P w K mg base "_law_all_paths" 27 (sem__law_all_paths 25)) (G__law_bent : Kn P w K mg base "_law_bent" 23 (sem__law_bent 20)) (G__law_caught : KnL P w K mg base "_law_caught" 30 sem__law_caught) (G__law_due : Kn P w K mg base "_law_due" 28 sem__law_due) (G__law_of : Kn P w K mg base "_law_of" 2 sem__law_of) (G__law_part : Kn P w K mg base "_law_part" 2 sem__law_part) (G__law_policy : Kn P w K mg base "_law_policy" 17 sem__law_policy) (G__law_urn : Kn P w K mg base "_law_urn" 1 sem__law_urn) (G_replaced : Kn P w K mg base "replaced" 28 sem_replaced) (G_with_number : Kn P w K mg base "with_number" 29 sem_with_number) (m_len : mg "len" = none) (m_max : mg "max" = none) (m_min : mg "min" = none) (m_range : mg "range" = none) (m_repr : mg "repr" = none) (g_law : mg "law" = some (.ref (He.ga K "law"))) (sysK : SysK K) : FnC P w K mg base 32 f fd ["_law_script"] sem_law :=
  fn_defT (k := 31) (N := ["_law_script", "_law_k", "_law_urn_here", "_law_plan", "_law_some", "_law_kept", "_law_path", "_law_others", "_law_part_here", "_law_numbers_tried", "_law_number", "_law_due_here"]) (ps := ["_law_script"]) (sb := sb_law) FL hfl ⟨rfl, rfl, rfl, by decide +kernel, rfl, by decide +kernel, by decide +kernel⟩ (fun cdv f A outer s H E hcd B =>
    (x_cons (x_for B.hp B.cm (i_rng1 (by rfl) m_range (a_cons (k_max B (by rfl) m_max (a_cons s_int (a_cons (k_min B (by rfl) m_min (a_cons s_int (a_cons (k_len B (by rfl) m_len (a_cons (s_name (pv 0)) a_nil)) a_nil))) a_nil))) a_nil)) (t_name (pg_name (i := 1) B.nd rfl (by first | exact .inl rfl | exact .inr rfl))) (x_cons (x_asg (pv_cell (s_call B G__law_urn (by decide) (by rfl) (a_cons (s_name (pv 0)) (a_cons (s_name (pv 1)) a_nil)))) (t_name (pg_name (i := 2) B.nd rfl (by first | exact .inl rfl | exact .inr rfl)))) (x_cons (x_asg (pv_frz (s_call B G__law_policy (by decide) (by rfl) (a_consC (s_name (pv 2)) (a_cons s_int (a_cons s_int a_nil))))) (t_name (pg_name (i := 3) B.nd rfl (by first | exact .inl rfl | exact .inr rfl)))) (x_cons (x_par (ps_par B.cm B.nd rfl rfl (by decide) rfl rfl (a_cons (s_call B G__law_all_paths (by decide) (by rfl) (a_cons (s_name (pv 3)) a_nil)) (a_cons (k_repr B sysK (by rfl) m_repr (a_cons (s_name (pv 3)) a_nil)) a_nil)) rfl)) (x_cons (x_for B.hp B.cm (i_seq (s_add (s_name (pv 4)) (s_lst (a_cons (s_tup (a_cons s_int a_nil)) (a_cons (s_mulA (s_tup (a_cons s_int a_nil)) s_int) (a_cons (s_add (s_ix (s_name (pv 4)) (s_neg s_int) (fun _ _ => rfl)) (s_tup (a_cons s_int a_nil))) a_nil)))))) (t_name (pg_name (i := 6) B.nd rfl (by first | exact .inl rfl | exact .inr rfl))) (x_cons (x_asg (pv_cell (s_lst (a_cons (s_call B G__law_part (by decide) (by rfl) (a_cons (s_name (pv 3)) (a_cons (s_call B G__law_of (by decide) (by rfl) (a_consC (s_name (pv 2)) (a_cons (s_name (pv 4)) a_nil))) a_nil))) (a_cons (s_tup (a_cons s_str (a_cons s_int a_nil))) (a_cons (s_tup (a_cons s_str (a_cons s_int (a_cons (s_tup (a_cons s_str (a_cons s_int a_nil))) a_nil)))) (a_cons s_none (a_cons s_str a_nil))))))) (t_name (pg_name (i := 7) B.nd rfl (by first | exact .inl rfl | exact .inr rfl)))) (x_cons (x_expr (y_app (s_name (pv 7)) (s_call B G__law_bent (by decide) (by rfl) (a_consC (s_name (pv 2)) (a_cons (s_tup (a_cons s_str (a_cons s_int (a_cons (s_tup (a_cons s_str (a_cons s_int a_nil))) (a_cons (s_tup (a_cons s_str (a_cons s_int a_nil))) a_nil))))) a_nil))))) (x_cons (x_for B.hp B.cm (i_seq (s_name (pv 7))) (t_name (pg_name (i := 8) B.nd rfl (by first | exact .inl rfl | exact .inr rfl))) (x_one (x_if (t_ne B (k_repr B sysK (by rfl) m_repr (a_cons (s_lam (n := 1) (j := 29) (x := "law") B G__law_caught (by decide) (by rfl) TB_law hcd (by first | rfl | decide +kernel) (LamX.lamS_by (show LamX.lamSB (defScope st_law) _ = true from by decide +kernel)) rfl (fun _ _ _ _ _ => rfl) (fun A1 o1 s1 H1 E1 f1 c1 Bl1 => (s_call Bl1 G_replaced (by decide) (by rfl) (a_cons (s_name (pv 3)) (a_cons (s_name (pv 6)) (a_cons (s_name (pv 8)) a_nil)))))) a_nil)) (k_repr B sysK (by rfl) m_repr (a_cons (s_call B G__law_due (by decide) (by rfl) (a_cons (s_name (pv 3)) (a_cons (s_name (pv 6)) (a_cons (s_name (pv 8)) a_nil)))) a_nil))) (x_one (x_ret s_bool)) x_nil))) (x_cons (x_asg (pv_frz (s_lst (a_cons s_none (a_cons s_int (a_cons s_int (a_cons (s_neg s_int) (a_cons s_bool (a_cons (s_tup a_nil) (a_cons (s_tup (a_cons s_int (a_cons s_int a_nil))) (a_cons (s_tup (a_cons s_int (a_cons s_none a_nil))) (a_cons (s_lst (a_cons s_int a_nil)) (a_cons s_str (a_cons (s_add (s_pow s_int s_int) s_int) (a_cons (s_mulA (s_tup (a_cons s_int a_nil)) s_int) a_nil)))))))))))))) (t_name (pg_name (i := 9) B.nd rfl (by first | exact .inl rfl | exact .inr rfl)))) (x_one (x_for B.hp B.cm (i_seq (s_name (pv 9))) (t_name (pg_name (i := 10) B.nd rfl (by first | exact .inl rfl | exact .inr rfl))) (x_cons (x_asg (pv_frz (s_tup (a_cons s_str (a_cons (s_name (pv 6)) a_nil)))) (t_name (pg_name (i := 11) B.nd rfl (by first | exact .inl rfl | exact .inr rfl)))) (x_cons (x_if (PW.pt (w_and (t_inL B (s_name (pv 6)) (s_name (pv 4)) rfl) (w_and1 (t_notIn (s_ix (s_call B G__law_part (by decide) (by rfl) (a_cons (s_name (pv 3)) (a_cons (s_name (pv 6)) a_nil))) s_int (fun _ _ => rfl)) (s_tup (a_cons s_str (a_cons s_str (a_cons s_str a_nil)))) rfl)))) (x_cons (x_asg (pv_frz (s_call B G__law_part (by decide) (by rfl) (a_cons (s_name (pv 3)) (a_cons (s_name (pv 6)) a_nil)))) (t_name (pg_name (i := 8) B.nd rfl (by first | exact .inl rfl | exact .inr rfl)))) (x_one (x_asg (pv_frz (s_call B G__law_due (by decide) (by rfl) (a_cons (s_name (pv 3)) (a_cons (s_name (pv 6)) (a_cons (s_add (s_tup (a_cons (s_ix (s_name (pv 8)) s_int (fun _ _ => rfl)) (a_cons (s_name (pv 10)) a_nil))) (s_sl (s_name (pv 8)) (o_some s_int) o_none)) a_nil))))) (t_name (pg_name (i := 11) B.nd rfl (by first | exact .inl rfl | exact .inr rfl)))))) x_nil) (x_one (x_if (t_ne B (k_repr B sysK (by rfl) m_repr (a_cons (s_lam (n := 1) (j := 29) (x := "law") B G__law_caught (by decide) (by rfl) TB_law hcd (by first | rfl | decide +kernel) (LamX.lamS_by (show LamX.lamSB (defScope st_law) _ = true from by decide +kernel)) rfl (fun _ _ _ _ _ => rfl) (fun A1 o1 s1 H1 E1 f1 c1 Bl1 => (s_call Bl1 G_with_number (by decide) (by rfl) (a_cons (s_name (pv 3)) (a_cons (s_name (pv 6)) (a_cons (s_name (pv 10)) a_nil)))))) a_nil)) (k_repr B sysK (by rfl) m_repr (a_cons (s_name (pv 11)) a_nil))) (x_one (x_ret s_bool)) x_nil))))))))))) (x_one (x_if (t_ne B (k_repr B sysK (by rfl) m_repr (a_cons (s_name (pv 3)) a_nil)) (s_name (pv 5))) (x_one (x_ret s_bool)) x_nil))))))) (x_one (x_ret s_bool))))
end
def d_is_label : He.DefD := ⟨("is_label", none), "is_label", "is_label", defArgs st_is_label, defBody st_is_label, defScope st_is_label, [], []⟩
def d_is_number : He.DefD := ⟨("is_number", none), "is_number", "is_number", defArgs st_is_number, defBody st_is_number, defScope st_is_number, [], []⟩
def d_is_span : He.DefD := ⟨("is_span", none), "is_span", "is_span", defArgs st_is_span, defBody st_is_span, defScope st_is_span, [], []⟩
def d_is_call : He.DefD := ⟨("is_call", none), "is_call", "is_call", defArgs st_is_call, defBody st_is_call, defScope st_is_call, [], []⟩
def d_has_number : He.DefD := ⟨("has_number", none), "has_number", "has_number", defArgs st_has_number, defBody st_has_number, defScope st_has_number, [], []⟩
def d_has_form : He.DefD := ⟨("has_form", none), "has_form", "has_form", defArgs st_has_form, defBody st_has_form, defScope st_has_form, [], []⟩
def d_inner : He.DefD := ⟨("inner", none), "inner", "inner", defArgs st_inner, defBody st_inner, defScope st_inner, [], []⟩
def d_is_policy : He.DefD := ⟨("is_policy", none), "is_policy", "is_policy", defArgs st_is_policy, defBody st_is_policy, defScope st_is_policy, [], []⟩
def d_is_index : He.DefD := ⟨("is_index", none), "is_index", "is_index", defArgs st_is_index, defBody st_is_index, defScope st_is_index, [], []⟩
def d_check_part : He.DefD := ⟨("check_part", none), "check_part", "check_part", defArgs st_check_part, defBody st_check_part, defScope st_check_part, [], []⟩
def d_part_at : He.DefD := ⟨("part_at", none), "part_at", "part_at", defArgs st_part_at, defBody st_part_at, defScope st_part_at, [], []⟩
def d_with_inner : He.DefD := ⟨("with_inner", none), "with_inner", "with_inner", defArgs st_with_inner, defBody st_with_inner, defScope st_with_inner, [], []⟩
def d_put_at : He.DefD := ⟨("put_at", none), "put_at", "put_at", defArgs st_put_at, defBody st_put_at, defScope st_put_at, [], []⟩
def d_check_policy : He.DefD := ⟨("check_policy", none), "check_policy", "check_policy", defArgs st_check_policy, defBody st_check_policy, defScope st_check_policy, [], []⟩
def d_replaced : He.DefD := ⟨("replaced", none), "replaced", "replaced", defArgs st_replaced, defBody st_replaced, defScope st_replaced, [], []⟩
def d_with_number : He.DefD := ⟨("with_number", none), "with_number", "with_number", defArgs st_with_number, defBody st_with_number, defScope st_with_number, [], []⟩
def d__law_urn : He.DefD := ⟨("_law_urn", none), "_law_urn", "_law_urn", defArgs st__law_urn, defBody st__law_urn, defScope st__law_urn, [], []⟩
def d__law_next : He.DefD := ⟨("_law_next", none), "_law_next", "_law_next", defArgs st__law_next, defBody st__law_next, defScope st__law_next, [], []⟩
def d__law_of : He.DefD := ⟨("_law_of", none), "_law_of", "_law_of", defArgs st__law_of, defBody st__law_of, defScope st__law_of, [], []⟩
def d__law_span : He.DefD := ⟨("_law_span", none), "_law_span", "_law_span", defArgs st__law_span, defBody st__law_span, defScope st__law_span, [], []⟩
def d__law_call : He.DefD := ⟨("_law_call", none), "_law_call", "_law_call", defArgs st__law_call, defBody st__law_call, defScope st__law_call, [], []⟩
def d__law_label : He.DefD := ⟨("_law_label", none), "_law_label", "_law_label", defArgs st__law_label, defBody st__law_label, defScope st__law_label, [], []⟩
def d__law_policy : He.DefD := ⟨("_law_policy", none), "_law_policy", "_law_policy", defArgs st__law_policy, defBody st__law_policy, defScope st__law_policy, [], []⟩
def d__law_grown : He.DefD := ⟨("_law_grown", none), "_law_grown", "_law_grown", defArgs st__law_grown, defBody st__law_grown, defScope st__law_grown, [], []⟩
def d__law_inner : He.DefD := ⟨("_law_inner", none), "_law_inner", "_law_inner", defArgs st__law_inner, defBody st__law_inner, defScope st__law_inner, [], []⟩
def d__law_all_paths : He.DefD := ⟨("_law_all_paths", none), "_law_all_paths", "_law_all_paths", defArgs st__law_all_paths, defBody st__law_all_paths, defScope st__law_all_paths, [], []⟩
def d__law_part : He.DefD := ⟨("_law_part", none), "_law_part", "_law_part", defArgs st__law_part, defBody st__law_part, defScope st__law_part, [], []⟩
def d__law_put : He.DefD := ⟨("_law_put", none), "_law_put", "_law_put", defArgs st__law_put, defBody st__law_put, defScope st__law_put, [], []⟩
def d__law_bent : He.DefD := ⟨("_law_bent", none), "_law_bent", "_law_bent", defArgs st__law_bent, defBody st__law_bent, defScope st__law_bent, [], []⟩
def d__law_is_count : He.DefD := ⟨("_law_is_count", none), "_law_is_count", "_law_is_count", defArgs st__law_is_count, defBody st__law_is_count, defScope st__law_is_count, [], []⟩
def d__law_is_mark : He.DefD := ⟨("_law_is_mark", none), "_law_is_mark", "_law_is_mark", defArgs st__law_is_mark, defBody st__law_is_mark, defScope st__law_is_mark, [], []⟩
def d__law_is_stretch : He.DefD := ⟨("_law_is_stretch", none), "_law_is_stretch", "_law_is_stretch", defArgs st__law_is_stretch, defBody st__law_is_stretch, defScope st__law_is_stretch, [], []⟩
def d__law_has_form : He.DefD := ⟨("_law_has_form", none), "_law_has_form", "_law_has_form", defArgs st__law_has_form, defBody st__law_has_form, defScope st__law_has_form, [], []⟩
def d__law_is_plan : He.DefD := ⟨("_law_is_plan", none), "_law_is_plan", "_law_is_plan", defArgs st__law_is_plan, defBody st__law_is_plan, defScope st__law_is_plan, [], []⟩
def d__law_caught : He.DefD := ⟨("_law_caught", none), "_law_caught", "_law_caught", defArgs st__law_caught, defBody st__law_caught, defScope st__law_caught, [], []⟩
def d__law_due : He.DefD := ⟨("_law_due", none), "_law_due", "_law_due", defArgs st__law_due, defBody st__law_due, defScope st__law_due, [], []⟩
def d_law : He.DefD := ⟨("law", none), "law", "law", defArgs st_law, defBody st_law, defScope st_law, [], []⟩
abbrev sti_InvalidPolicy : Stmt := match top 2 with
  | .ClassDef _ _ _ b _ _ _ _ _ _ _ => b.getD 0 (.Pass ⟨0, 0, 0, 0⟩)
  | _ => .Pass ⟨0, 0, 0, 0⟩
def di_InvalidPolicy : He.DefD := ⟨("InvalidPolicy", some "__init__"), "__init__", "InvalidPolicy.__init__", defArgs sti_InvalidPolicy, defBody sti_InvalidPolicy, defScope sti_InvalidPolicy, [], []⟩
abbrev sti_NoPart : Stmt := match top 3 with
  | .ClassDef _ _ _ b _ _ _ _ _ _ _ => b.getD 0 (.Pass ⟨0, 0, 0, 0⟩)
  | _ => .Pass ⟨0, 0, 0, 0⟩
def di_NoPart : He.DefD := ⟨("NoPart", some "__init__"), "__init__", "NoPart.__init__", defArgs sti_NoPart, defBody sti_NoPart, defScope sti_NoPart, [], []⟩
def fn : List He.DefD := [d_is_label, d_is_number, d_is_span, d_is_call, d_has_number, d_has_form, d_inner, d_is_policy, d_is_index, d_check_part, d_part_at, d_with_inner, d_put_at, d_check_policy, d_replaced, d_with_number, d__law_urn, d__law_next, d__law_of, d__law_span, d__law_call, d__law_label, d__law_policy, d__law_grown, d__law_inner, d__law_all_paths, d__law_part, d__law_put, d__law_bent, d__law_is_count, d__law_is_mark, d__law_is_stretch, d__law_has_form, d__law_is_plan, d__law_caught, d__law_due, d_law, di_InvalidPolicy, di_NoPart]
def fa : List Fb := [(fun K => (He.Fa.glo "is_label").ok K),
  (fun K => (He.Fa.glo "is_number").ok K),
  (fun K => (He.Fa.glo "is_span").ok K),
  (fun K => (He.Fa.glo "is_call").ok K),
  (fun K => (He.Fa.glo "has_number").ok K),
  (fun K => (He.Fa.glo "has_form").ok K),
  (fun K => (He.Fa.glo "inner").ok K),
  (fun K => (He.Fa.glo "is_policy").ok K),
  (fun K => (He.Fa.glo "is_index").ok K),
  (fun K => (He.Fa.glo "check_part").ok K),
  (fun K => (He.Fa.glo "part_at").ok K),
  (fun K => (He.Fa.glo "with_inner").ok K),
  (fun K => (He.Fa.glo "put_at").ok K),
  (fun K => (He.Fa.glo "check_policy").ok K),
  (fun K => (He.Fa.glo "replaced").ok K),
  (fun K => (He.Fa.glo "with_number").ok K),
  (fun K => (He.Fa.glo "_law_urn").ok K),
  (fun K => (He.Fa.glo "_law_next").ok K),
  (fun K => (He.Fa.glo "_law_of").ok K),
  (fun K => (He.Fa.glo "_law_span").ok K),
  (fun K => (He.Fa.glo "_law_call").ok K),
  (fun K => (He.Fa.glo "_law_label").ok K),
  (fun K => (He.Fa.glo "_law_policy").ok K),
  (fun K => (He.Fa.glo "_law_grown").ok K),
  (fun K => (He.Fa.glo "_law_inner").ok K),
  (fun K => (He.Fa.glo "_law_all_paths").ok K),
  (fun K => (He.Fa.glo "_law_part").ok K),
  (fun K => (He.Fa.glo "_law_put").ok K),
  (fun K => (He.Fa.glo "_law_bent").ok K),
  (fun K => (He.Fa.glo "_law_is_count").ok K),
  (fun K => (He.Fa.glo "_law_is_mark").ok K),
  (fun K => (He.Fa.glo "_law_is_stretch").ok K),
  (fun K => (He.Fa.glo "_law_has_form").ok K),
  (fun K => (He.Fa.glo "_law_is_plan").ok K),
  (fun K => (He.Fa.glo "_law_caught").ok K),
  (fun K => (He.Fa.glo "_law_due").ok K),
  (fun K => (He.Fa.glo "law").ok K),
  (fun K => (He.Fa.free "abs").ok K),
  (fun K => (He.Fa.free "all").ok K),
  (fun K => (He.Fa.free "bool").ok K),
  (fun K => (He.Fa.free "enumerate").ok K),
  (fun K => (He.Fa.free "int").ok K),
  (fun K => (He.Fa.free "isinstance").ok K),
  (fun K => (He.Fa.free "len").ok K),
  (fun K => (He.Fa.free "list").ok K),
  (fun K => (He.Fa.free "max").ok K),
  (fun K => (He.Fa.free "min").ok K),
  (fun K => (He.Fa.free "range").ok K),
  (fun K => (He.Fa.free "repr").ok K),
  (fun K => (He.Fa.free "set").ok K),
  (fun K => (He.Fa.free "str").ok K),
  (fun K => (He.Fa.free "tuple").ok K),
  (fun K => (He.Fa.str "BOTH" "both").ok K),
  (fun K => (He.Fa.str "CALL" "call").ok K),
  (fun K => (He.Fa.int "GREATEST_NUMBER" 1000000000).ok K),
  (fun K => (He.Fa.int "LONGEST_LABEL" 8).ok K),
  (fun K => (He.Fa.int "MOST_DEPTH" 20).ok K),
  (fun K => (He.Fa.int "MOST_PARTS" 40).ok K),
  (fun K => (He.Fa.int "MOST_PAUSES" 5).ok K),
  (fun K => (He.Fa.str "RETRY" "retry").ok K),
  (fun K => (He.Fa.str "SIGNS" "abcdefghijklmnopqrstuvwxyz0123456789").ok K),
  (fun K => (He.Fa.int "SPAN_PARTS" 2).ok K),
  (fun K => (He.Fa.str "THEN" "then").ok K),
  (fun K => (He.Fa.str "WAIT" "wait").ok K),
  (errB "InvalidPolicy"),
  (errB "NoPart"),
  (errB "PolicyError"),
  (exmB "InvalidPolicy" "PolicyError" true),
  (exmB "NoPart" "PolicyError" true),
  (exmB "PolicyError" "PolicyError" true),
  (fun K => (He.Fa.glo "InvalidPolicy").ok K),
  (fun K => (He.Fa.glo "NoPart").ok K),
  (fun K => (He.Fa.glo "PolicyError").ok K),
  (fun K => (He.Fa.glo "law").ok K),
  (isNB ["InvalidPolicy"]),
  (isNB ["NoPart"]),
  (isB "InvalidPolicy" ["InvalidPolicy"] true),
  (isB "InvalidPolicy" ["NoPart"] false),
  (isB "NoPart" ["InvalidPolicy"] false),
  (isB "NoPart" ["NoPart"] true),
  (isB "PolicyError" ["InvalidPolicy"] false),
  (isB "PolicyError" ["NoPart"] false),
  (fun K => (He.Fa.noat "InvalidPolicy" "value").ok K),
  (fun K => (He.Fa.noat "NoPart" "value").ok K),
  sysB,
  (tabB "SIZES" [("call", 5), ("wait", 2), ("then", 3), ("fallback", 4), ("retry", 3), ("timeout", 3), ("race", 4), ("hedge", 4), ("both", 3)]),
  (tupB "NUMBERED" ["wait", "retry", "fallback", "timeout", "race", "hedge"]),
  (Cfvalue.txtB "InvalidPolicy"),
  (Cfvalue.txtB "NoPart")]
abbrev R : PySem.W.OpenRow := PySem.W.OpenLaw.row PySem.Challenge.rw_callpolicy_k04_parts_and_numbers_replace
def ts : List He.Tab := [(fun K => He.ga K "SIZES", ["call", "wait", "then", "fallback", "retry", "timeout", "race", "hedge", "both"])]
def tb : List (Str × Str) := [("law", "law.<locals>.<lambda>")]
abbrev hk : PySem.W.Hook := hookL 4 fa fn ts tb
def ob (s : PySem.W.SharedT) : AlL := obsL 4 fa fn ts tb (HandSHeadRun.getT s)
theorem facts {P : Program} {w : World} {K : PySem.W.Frag} {h : Heap} {mg : Str → Option Value} {f : Addr} (X : K.In h) (G : h.Ns mainGlobals mg) (hfa : mg ("law" : Str) = some (.ref f)) (cT : SaysL fa fn ts tb w h K) :
    ∃ fd : FuncData, (∀ (s : Shared) (v : Value), BindsTo s fd ⟨[v], []⟩ [("_law_script", v)]) ∧ ∀ base : Heap, K.In base → base.Ns mainGlobals mg → TabsOk K base mg tb → FnC P w K mg base 32 f fd ["_law_script"] sem_law := by
  have c := cT.t.x
  have m_abs : mg "abs" = none := He.free_ok X G (c.fact 37 (f := fun K => (He.Fa.free "abs").ok K) rfl)
  have m_all : mg "all" = none := He.free_ok X G (c.fact 38 (f := fun K => (He.Fa.free "all").ok K) rfl)
  have m_bool : mg "bool" = none := He.free_ok X G (c.fact 39 (f := fun K => (He.Fa.free "bool").ok K) rfl)
  have m_enumerate : mg "enumerate" = none := He.free_ok X G (c.fact 40 (f := fun K => (He.Fa.free "enumerate").ok K) rfl)
  have m_int : mg "int" = none := He.free_ok X G (c.fact 41 (f := fun K => (He.Fa.free "int").ok K) rfl)
  have m_isinstance : mg "isinstance" = none := He.free_ok X G (c.fact 42 (f := fun K => (He.Fa.free "isinstance").ok K) rfl)
  have m_len : mg "len" = none := He.free_ok X G (c.fact 43 (f := fun K => (He.Fa.free "len").ok K) rfl)
  have m_list : mg "list" = none := He.free_ok X G (c.fact 44 (f := fun K => (He.Fa.free "list").ok K) rfl)
  have m_max : mg "max" = none := He.free_ok X G (c.fact 45 (f := fun K => (He.Fa.free "max").ok K) rfl)
  have m_min : mg "min" = none := He.free_ok X G (c.fact 46 (f := fun K => (He.Fa.free "min").ok K) rfl)
  have m_range : mg "range" = none := He.free_ok X G (c.fact 47 (f := fun K => (He.Fa.free "range").ok K) rfl)
  have m_repr : mg "repr" = none := He.free_ok X G (c.fact 48 (f := fun K => (He.Fa.free "repr").ok K) rfl)
  have m_set : mg "set" = none := He.free_ok X G (c.fact 49 (f := fun K => (He.Fa.free "set").ok K) rfl)
  have m_str : mg "str" = none := He.free_ok X G (c.fact 50 (f := fun K => (He.Fa.free "str").ok K) rfl)
  have m_tuple : mg "tuple" = none := He.free_ok X G (c.fact 51 (f := fun K => (He.Fa.free "tuple").ok K) rfl)
  have c_BOTH := He.str_ok X G (c.fact 52 (f := fun K => (He.Fa.str "BOTH" "both").ok K) rfl)
  have c_CALL := He.str_ok X G (c.fact 53 (f := fun K => (He.Fa.str "CALL" "call").ok K) rfl)
  have c_GREATEST_NUMBER := He.int_ok X G (c.fact 54 (f := fun K => (He.Fa.int "GREATEST_NUMBER" 1000000000).ok K) rfl)
  have c_LONGEST_LABEL := He.int_ok X G (c.fact 55 (f := fun K => (He.Fa.int "LONGEST_LABEL" 8).ok K) rfl)
  have c_MOST_DEPTH := He.int_ok X G (c.fact 56 (f := fun K => (He.Fa.int "MOST_DEPTH" 20).ok K) rfl)
  have c_MOST_PARTS := He.int_ok X G (c.fact 57 (f := fun K => (He.Fa.int "MOST_PARTS" 40).ok K) rfl)
  have c_MOST_PAUSES := He.int_ok X G (c.fact 58 (f := fun K => (He.Fa.int "MOST_PAUSES" 5).ok K) rfl)
  have c_RETRY := He.str_ok X G (c.fact 59 (f := fun K => (He.Fa.str "RETRY" "retry").ok K) rfl)
  have c_SIGNS := He.str_ok X G (c.fact 60 (f := fun K => (He.Fa.str "SIGNS" "abcdefghijklmnopqrstuvwxyz0123456789").ok K) rfl)
  have c_SPAN_PARTS := He.int_ok X G (c.fact 61 (f := fun K => (He.Fa.int "SPAN_PARTS" 2).ok K) rfl)
  have c_THEN := He.str_ok X G (c.fact 62 (f := fun K => (He.Fa.str "THEN" "then").ok K) rfl)
  have c_WAIT := He.str_ok X G (c.fact 63 (f := fun K => (He.Fa.str "WAIT" "wait").ok K) rfl)
  have err_InvalidPolicy : ErrC K (He.ga K "InvalidPolicy") := errB_ok (c.fact 64 (f := (errB "InvalidPolicy")) rfl)
  have err_NoPart : ErrC K (He.ga K "NoPart") := errB_ok (c.fact 65 (f := (errB "NoPart")) rfl)
  have err_PolicyError : ErrC K (He.ga K "PolicyError") := errB_ok (c.fact 66 (f := (errB "PolicyError")) rfl)
  have exm_InvalidPolicy_PolicyError : PySem.W.exmOne K (.ref (He.ga K "InvalidPolicy")) (.ref (He.ga K "PolicyError")) = some true := of_decide_eq_true (c.fact 67 (f := (exmB "InvalidPolicy" "PolicyError" true)) rfl)
  have exm_NoPart_PolicyError : PySem.W.exmOne K (.ref (He.ga K "NoPart")) (.ref (He.ga K "PolicyError")) = some true := of_decide_eq_true (c.fact 68 (f := (exmB "NoPart" "PolicyError" true)) rfl)
  have exm_PolicyError_PolicyError : PySem.W.exmOne K (.ref (He.ga K "PolicyError")) (.ref (He.ga K "PolicyError")) = some true := of_decide_eq_true (c.fact 69 (f := (exmB "PolicyError" "PolicyError" true)) rfl)
  have g_InvalidPolicy : mg "InvalidPolicy" = some (.ref (He.ga K "InvalidPolicy")) := He.glo_ok X G (c.fact 70 (f := (fun K => (He.Fa.glo "InvalidPolicy").ok K)) rfl)
  have g_NoPart : mg "NoPart" = some (.ref (He.ga K "NoPart")) := He.glo_ok X G (c.fact 71 (f := (fun K => (He.Fa.glo "NoPart").ok K)) rfl)
  have g_PolicyError : mg "PolicyError" = some (.ref (He.ga K "PolicyError")) := He.glo_ok X G (c.fact 72 (f := (fun K => (He.Fa.glo "PolicyError").ok K)) rfl)
  have g_law : mg "law" = some (.ref (He.ga K "law")) := He.glo_ok X G (c.fact 73 (f := (fun K => (He.Fa.glo "law").ok K)) rfl)
  have isN_InvalidPolicy : PySem.W.kitAny K (.type "NoneType") [.ref (He.ga K "InvalidPolicy")] = some false := of_decide_eq_true (c.fact 74 (f := (isNB ["InvalidPolicy"])) rfl)
  have isN_NoPart : PySem.W.kitAny K (.type "NoneType") [.ref (He.ga K "NoPart")] = some false := of_decide_eq_true (c.fact 75 (f := (isNB ["NoPart"])) rfl)
  have is_InvalidPolicy_InvalidPolicy : PySem.W.kitAny K (.ref (He.ga K "InvalidPolicy")) [.ref (He.ga K "InvalidPolicy")] = some true := of_decide_eq_true (c.fact 76 (f := (isB "InvalidPolicy" ["InvalidPolicy"] true)) rfl)
  have is_InvalidPolicy_NoPart : PySem.W.kitAny K (.ref (He.ga K "InvalidPolicy")) [.ref (He.ga K "NoPart")] = some false := of_decide_eq_true (c.fact 77 (f := (isB "InvalidPolicy" ["NoPart"] false)) rfl)
  have is_NoPart_InvalidPolicy : PySem.W.kitAny K (.ref (He.ga K "NoPart")) [.ref (He.ga K "InvalidPolicy")] = some false := of_decide_eq_true (c.fact 78 (f := (isB "NoPart" ["InvalidPolicy"] false)) rfl)
  have is_NoPart_NoPart : PySem.W.kitAny K (.ref (He.ga K "NoPart")) [.ref (He.ga K "NoPart")] = some true := of_decide_eq_true (c.fact 79 (f := (isB "NoPart" ["NoPart"] true)) rfl)
  have is_PolicyError_InvalidPolicy : PySem.W.kitAny K (.ref (He.ga K "PolicyError")) [.ref (He.ga K "InvalidPolicy")] = some false := of_decide_eq_true (c.fact 80 (f := (isB "PolicyError" ["InvalidPolicy"] false)) rfl)
  have is_PolicyError_NoPart : PySem.W.kitAny K (.ref (He.ga K "PolicyError")) [.ref (He.ga K "NoPart")] = some false := of_decide_eq_true (c.fact 81 (f := (isB "PolicyError" ["NoPart"] false)) rfl)
  have noat_InvalidPolicy_value : PySem.W.findIn K (.ref (He.ga K "InvalidPolicy")) "value" = some none := He.noat_ok (c.fact 82 (f := (fun K => (He.Fa.noat "InvalidPolicy" "value").ok K)) rfl)
  have noat_NoPart_value : PySem.W.findIn K (.ref (He.ga K "NoPart")) "value" = some none := He.noat_ok (c.fact 83 (f := (fun K => (He.Fa.noat "NoPart" "value").ok K)) rfl)
  have sysK : SysK K := sysB_ok (c.fact 84 (f := sysB) rfl)
  have tab_SIZES : TabC K w mg "SIZES" [("call", 5), ("wait", 2), ("then", 3), ("fallback", 4), ("retry", 3), ("timeout", 3), ("race", 4), ("hedge", 4), ("both", 3)] := tabB_ok X G (c.fact 85 (f := (tabB "SIZES" [("call", 5), ("wait", 2), ("then", 3), ("fallback", 4), ("retry", 3), ("timeout", 3), ("race", 4), ("hedge", 4), ("both", 3)])) rfl) (cT.t.tab 0 (t := (fun K => He.ga K "SIZES", ["call", "wait", "then", "fallback", "retry", "timeout", "race", "hedge", "both"])) rfl)
  have tup_NUMBERED : TupC K mg "NUMBERED" ["wait", "retry", "fallback", "timeout", "race", "hedge"] := tupB_ok X G (c.fact 86 (f := (tupB "NUMBERED" ["wait", "retry", "fallback", "timeout", "race", "hedge"])) rfl)
  have txt_InvalidPolicy : Cfvalue.Txt K (He.ga K "InvalidPolicy") (He.ma K (He.ga K "InvalidPolicy") "__init__") "InvalidPolicy.__init__" := (by obtain ⟨fd, F⟩ := c.def_ 37 (d := di_InvalidPolicy) rfl; exact Cfvalue.txt_ok (c.fact 87 (f := (Cfvalue.txtB "InvalidPolicy")) rfl) F)
  have txt_NoPart : Cfvalue.Txt K (He.ga K "NoPart") (He.ma K (He.ga K "NoPart") "__init__") "NoPart.__init__" := (by obtain ⟨fd, F⟩ := c.def_ 38 (d := di_NoPart) rfl; exact Cfvalue.txt_ok (c.fact 88 (f := (Cfvalue.txtB "NoPart")) rfl) F)
  have D_is_label : Df K mg "is_label" st_is_label := by obtain ⟨fd, F⟩ := c.def_ 0 (d := d_is_label) rfl; exact ⟨_, fd, F, He.glo_ok X G (c.fact 0 (f := fun K => (He.Fa.glo "is_label").ok K) rfl)⟩
  have D_is_number : Df K mg "is_number" st_is_number := by obtain ⟨fd, F⟩ := c.def_ 1 (d := d_is_number) rfl; exact ⟨_, fd, F, He.glo_ok X G (c.fact 1 (f := fun K => (He.Fa.glo "is_number").ok K) rfl)⟩
  have D_is_span : Df K mg "is_span" st_is_span := by obtain ⟨fd, F⟩ := c.def_ 2 (d := d_is_span) rfl; exact ⟨_, fd, F, He.glo_ok X G (c.fact 2 (f := fun K => (He.Fa.glo "is_span").ok K) rfl)⟩
  have D_is_call : Df K mg "is_call" st_is_call := by obtain ⟨fd, F⟩ := c.def_ 3 (d := d_is_call) rfl; exact ⟨_, fd, F, He.glo_ok X G (c.fact 3 (f := fun K => (He.Fa.glo "is_call").ok K) rfl)⟩
  have D_has_number : Df K mg "has_number" st_has_number := by obtain ⟨fd, F⟩ := c.def_ 4 (d := d_has_number) rfl; exact ⟨_, fd, F, He.glo_ok X G (c.fact 4 (f := fun K => (He.Fa.glo "has_number").ok K) rfl)⟩
  have D_has_form : Df K mg "has_form" st_has_form := by obtain ⟨fd, F⟩ := c.def_ 5 (d := d_has_form) rfl; exact ⟨_, fd, F, He.glo_ok X G (c.fact 5 (f := fun K => (He.Fa.glo "has_form").ok K) rfl)⟩
  have D_inner : Df K mg "inner" st_inner := by obtain ⟨fd, F⟩ := c.def_ 6 (d := d_inner) rfl; exact ⟨_, fd, F, He.glo_ok X G (c.fact 6 (f := fun K => (He.Fa.glo "inner").ok K) rfl)⟩
  have D_is_policy : Df K mg "is_policy" st_is_policy := by obtain ⟨fd, F⟩ := c.def_ 7 (d := d_is_policy) rfl; exact ⟨_, fd, F, He.glo_ok X G (c.fact 7 (f := fun K => (He.Fa.glo "is_policy").ok K) rfl)⟩
  have D_is_index : Df K mg "is_index" st_is_index := by obtain ⟨fd, F⟩ := c.def_ 8 (d := d_is_index) rfl; exact ⟨_, fd, F, He.glo_ok X G (c.fact 8 (f := fun K => (He.Fa.glo "is_index").ok K) rfl)⟩
  have D_check_part : Df K mg "check_part" st_check_part := by obtain ⟨fd, F⟩ := c.def_ 9 (d := d_check_part) rfl; exact ⟨_, fd, F, He.glo_ok X G (c.fact 9 (f := fun K => (He.Fa.glo "check_part").ok K) rfl)⟩
  have D_part_at : Df K mg "part_at" st_part_at := by obtain ⟨fd, F⟩ := c.def_ 10 (d := d_part_at) rfl; exact ⟨_, fd, F, He.glo_ok X G (c.fact 10 (f := fun K => (He.Fa.glo "part_at").ok K) rfl)⟩
  have D_with_inner : Df K mg "with_inner" st_with_inner := by obtain ⟨fd, F⟩ := c.def_ 11 (d := d_with_inner) rfl; exact ⟨_, fd, F, He.glo_ok X G (c.fact 11 (f := fun K => (He.Fa.glo "with_inner").ok K) rfl)⟩
  have D_put_at : Df K mg "put_at" st_put_at := by obtain ⟨fd, F⟩ := c.def_ 12 (d := d_put_at) rfl; exact ⟨_, fd, F, He.glo_ok X G (c.fact 12 (f := fun K => (He.Fa.glo "put_at").ok K) rfl)⟩
  have D_check_policy : Df K mg "check_policy" st_check_policy := by obtain ⟨fd, F⟩ := c.def_ 13 (d := d_check_policy) rfl; exact ⟨_, fd, F, He.glo_ok X G (c.fact 13 (f := fun K => (He.Fa.glo "check_policy").ok K) rfl)⟩
  have D_replaced : Df K mg "replaced" st_replaced := by obtain ⟨fd, F⟩ := c.def_ 14 (d := d_replaced) rfl; exact ⟨_, fd, F, He.glo_ok X G (c.fact 14 (f := fun K => (He.Fa.glo "replaced").ok K) rfl)⟩
  have D_with_number : Df K mg "with_number" st_with_number := by obtain ⟨fd, F⟩ := c.def_ 15 (d := d_with_number) rfl; exact ⟨_, fd, F, He.glo_ok X G (c.fact 15 (f := fun K => (He.Fa.glo "with_number").ok K) rfl)⟩
  have D__law_urn : Df K mg "_law_urn" st__law_urn := by obtain ⟨fd, F⟩ := c.def_ 16 (d := d__law_urn) rfl; exact ⟨_, fd, F, He.glo_ok X G (c.fact 16 (f := fun K => (He.Fa.glo "_law_urn").ok K) rfl)⟩
  have D__law_next : Df K mg "_law_next" st__law_next := by obtain ⟨fd, F⟩ := c.def_ 17 (d := d__law_next) rfl; exact ⟨_, fd, F, He.glo_ok X G (c.fact 17 (f := fun K => (He.Fa.glo "_law_next").ok K) rfl)⟩
  have D__law_of : Df K mg "_law_of" st__law_of := by obtain ⟨fd, F⟩ := c.def_ 18 (d := d__law_of) rfl; exact ⟨_, fd, F, He.glo_ok X G (c.fact 18 (f := fun K => (He.Fa.glo "_law_of").ok K) rfl)⟩
  have D__law_span : Df K mg "_law_span" st__law_span := by obtain ⟨fd, F⟩ := c.def_ 19 (d := d__law_span) rfl; exact ⟨_, fd, F, He.glo_ok X G (c.fact 19 (f := fun K => (He.Fa.glo "_law_span").ok K) rfl)⟩
  have D__law_call : Df K mg "_law_call" st__law_call := by obtain ⟨fd, F⟩ := c.def_ 20 (d := d__law_call) rfl; exact ⟨_, fd, F, He.glo_ok X G (c.fact 20 (f := fun K => (He.Fa.glo "_law_call").ok K) rfl)⟩
  have D__law_label : Df K mg "_law_label" st__law_label := by obtain ⟨fd, F⟩ := c.def_ 21 (d := d__law_label) rfl; exact ⟨_, fd, F, He.glo_ok X G (c.fact 21 (f := fun K => (He.Fa.glo "_law_label").ok K) rfl)⟩
  have D__law_policy : Df K mg "_law_policy" st__law_policy := by obtain ⟨fd, F⟩ := c.def_ 22 (d := d__law_policy) rfl; exact ⟨_, fd, F, He.glo_ok X G (c.fact 22 (f := fun K => (He.Fa.glo "_law_policy").ok K) rfl)⟩
  have D__law_grown : Df K mg "_law_grown" st__law_grown := by obtain ⟨fd, F⟩ := c.def_ 23 (d := d__law_grown) rfl; exact ⟨_, fd, F, He.glo_ok X G (c.fact 23 (f := fun K => (He.Fa.glo "_law_grown").ok K) rfl)⟩
  have D__law_inner : Df K mg "_law_inner" st__law_inner := by obtain ⟨fd, F⟩ := c.def_ 24 (d := d__law_inner) rfl; exact ⟨_, fd, F, He.glo_ok X G (c.fact 24 (f := fun K => (He.Fa.glo "_law_inner").ok K) rfl)⟩
  have D__law_all_paths : Df K mg "_law_all_paths" st__law_all_paths := by obtain ⟨fd, F⟩ := c.def_ 25 (d := d__law_all_paths) rfl; exact ⟨_, fd, F, He.glo_ok X G (c.fact 25 (f := fun K => (He.Fa.glo "_law_all_paths").ok K) rfl)⟩
  have D__law_part : Df K mg "_law_part" st__law_part := by obtain ⟨fd, F⟩ := c.def_ 26 (d := d__law_part) rfl; exact ⟨_, fd, F, He.glo_ok X G (c.fact 26 (f := fun K => (He.Fa.glo "_law_part").ok K) rfl)⟩
  have D__law_put : Df K mg "_law_put" st__law_put := by obtain ⟨fd, F⟩ := c.def_ 27 (d := d__law_put) rfl; exact ⟨_, fd, F, He.glo_ok X G (c.fact 27 (f := fun K => (He.Fa.glo "_law_put").ok K) rfl)⟩
  have D__law_bent : Df K mg "_law_bent" st__law_bent := by obtain ⟨fd, F⟩ := c.def_ 28 (d := d__law_bent) rfl; exact ⟨_, fd, F, He.glo_ok X G (c.fact 28 (f := fun K => (He.Fa.glo "_law_bent").ok K) rfl)⟩
  have D__law_is_count : Df K mg "_law_is_count" st__law_is_count := by obtain ⟨fd, F⟩ := c.def_ 29 (d := d__law_is_count) rfl; exact ⟨_, fd, F, He.glo_ok X G (c.fact 29 (f := fun K => (He.Fa.glo "_law_is_count").ok K) rfl)⟩
  have D__law_is_mark : Df K mg "_law_is_mark" st__law_is_mark := by obtain ⟨fd, F⟩ := c.def_ 30 (d := d__law_is_mark) rfl; exact ⟨_, fd, F, He.glo_ok X G (c.fact 30 (f := fun K => (He.Fa.glo "_law_is_mark").ok K) rfl)⟩
  have D__law_is_stretch : Df K mg "_law_is_stretch" st__law_is_stretch := by obtain ⟨fd, F⟩ := c.def_ 31 (d := d__law_is_stretch) rfl; exact ⟨_, fd, F, He.glo_ok X G (c.fact 31 (f := fun K => (He.Fa.glo "_law_is_stretch").ok K) rfl)⟩
  have D__law_has_form : Df K mg "_law_has_form" st__law_has_form := by obtain ⟨fd, F⟩ := c.def_ 32 (d := d__law_has_form) rfl; exact ⟨_, fd, F, He.glo_ok X G (c.fact 32 (f := fun K => (He.Fa.glo "_law_has_form").ok K) rfl)⟩
  have D__law_is_plan : Df K mg "_law_is_plan" st__law_is_plan := by obtain ⟨fd, F⟩ := c.def_ 33 (d := d__law_is_plan) rfl; exact ⟨_, fd, F, He.glo_ok X G (c.fact 33 (f := fun K => (He.Fa.glo "_law_is_plan").ok K) rfl)⟩
  have D__law_caught : Df K mg "_law_caught" st__law_caught := by obtain ⟨fd, F⟩ := c.def_ 34 (d := d__law_caught) rfl; exact ⟨_, fd, F, He.glo_ok X G (c.fact 34 (f := fun K => (He.Fa.glo "_law_caught").ok K) rfl)⟩
  have D__law_due : Df K mg "_law_due" st__law_due := by obtain ⟨fd, F⟩ := c.def_ 35 (d := d__law_due) rfl; exact ⟨_, fd, F, He.glo_ok X G (c.fact 35 (f := fun K => (He.Fa.glo "_law_due").ok K) rfl)⟩
  obtain ⟨fdL, FL⟩ := c.def_ 36 (d := d_law) rfl
  have e := hfa.symm.trans (He.glo_ok X G (c.fact 36 (f := fun K => (He.Fa.glo "law").ok K) rfl))
  cases e
  refine ⟨fdL, fun s v => FunD.bindsA (ps := ["_law_script"]) FL (fun _ _ _ _ _ _ us hl => match us, hl with | [_], _ => rfl) s [v] rfl, fun base _ _ TBs => ?_⟩
  have TB_law := TBs ("law", "law.<locals>.<lambda>") (List.mem_of_getElem? (i := 0) rfl)
  have G_is_label := kn_is_label (P := P) (w := w) (mg := mg) (base := base) D_is_label m_all m_isinstance m_len m_str c_LONGEST_LABEL c_SIGNS
  have G_is_number := kn_is_number (P := P) (w := w) (mg := mg) (base := base) D_is_number m_bool m_int m_isinstance c_GREATEST_NUMBER
  have G_inner := kn_inner (P := P) (w := w) (mg := mg) (base := base) D_inner c_BOTH c_CALL c_THEN c_WAIT
  have G_is_index := kn_is_index (P := P) (w := w) (mg := mg) (base := base) D_is_index m_bool m_int m_isinstance
  have G_with_inner := kn_with_inner (P := P) (w := w) (mg := mg) (base := base) D_with_inner m_len m_tuple
  have G__law_urn := kn__law_urn (P := P) (w := w) (mg := mg) (base := base) D__law_urn m_abs m_int m_len
  have G__law_next := kn__law_next (P := P) (w := w) (mg := mg) (base := base) D__law_next
  have G__law_label := kn__law_label (P := P) (w := w) (mg := mg) (base := base) D__law_label m_int
  have G__law_inner := kn__law_inner (P := P) (w := w) (mg := mg) (base := base) D__law_inner
  have G__law_is_count := kn__law_is_count (P := P) (w := w) (mg := mg) (base := base) D__law_is_count m_bool m_int m_isinstance
  have G__law_is_mark := kn__law_is_mark (P := P) (w := w) (mg := mg) (base := base) D__law_is_mark m_all m_isinstance m_len m_str
  have G_is_span := kn_is_span (P := P) (w := w) (mg := mg) (base := base) D_is_span G_is_number m_all m_isinstance m_len m_tuple c_SPAN_PARTS
  have G_has_number := kn_has_number (P := P) (w := w) (mg := mg) (base := base) D_has_number G_is_number m_all m_isinstance m_len m_tuple c_MOST_PAUSES c_RETRY c_WAIT
  have G_check_part := kn_check_part (P := P) (w := w) (mg := mg) (base := base) D_check_part G_inner G_is_index m_isinstance m_len m_tuple g_NoPart txt_NoPart
  have G__law_of := kn__law_of (P := P) (w := w) (mg := mg) (base := base) D__law_of G__law_next m_len
  have G__law_span := kn__law_span (P := P) (w := w) (mg := mg) (base := base) D__law_span G__law_next m_min
  have G__law_part := kn__law_part (P := P) (w := w) (mg := mg) (base := base) D__law_part G__law_inner
  have G__law_is_stretch := kn__law_is_stretch (P := P) (w := w) (mg := mg) (base := base) D__law_is_stretch G__law_is_count m_all m_isinstance m_len m_tuple
  have G_is_call := kn_is_call (P := P) (w := w) (mg := mg) (base := base) D_is_call G_is_label G_is_span m_all m_bool m_isinstance
  have G_part_at := kn_part_at (P := P) (w := w) (mg := mg) (base := base) D_part_at G_check_part G_inner
  have G__law_call := kn__law_call (P := P) (w := w) (mg := mg) (base := base) D__law_call G__law_next G__law_span
  have G__law_has_form := kn__law_has_form (P := P) (w := w) (mg := mg) (base := base) D__law_has_form G__law_is_count G__law_is_mark G__law_is_stretch m_all m_bool m_isinstance m_len m_str m_tuple
  have G_has_form := kn_has_form (P := P) (w := w) (mg := mg) (base := base) D_has_form G_has_number G_is_call m_isinstance m_len m_str m_tuple c_CALL tab_SIZES tup_NUMBERED
  have G__law_is_plan := kn__law_is_plan (P := P) (w := w) (mg := mg) (base := base) D__law_is_plan G__law_has_form G__law_inner m_int m_len m_list m_range m_set
  have G_is_policy := kn_is_policy (P := P) (w := w) (mg := mg) (base := base) D_is_policy G_has_form G_inner c_CALL c_MOST_DEPTH c_MOST_PARTS
  have G_check_policy := kn_check_policy (P := P) (w := w) (mg := mg) (base := base) D_check_policy G_is_policy g_InvalidPolicy txt_InvalidPolicy
  have G__law_grown := kn__law_grown (P := P) (w := w) (mg := mg) (base := base) D__law_grown G__law_call G__law_label G__law_next G__law_of m_range m_tuple
  have G__law_policy := kn__law_policy (P := P) (w := w) (mg := mg) (base := base) D__law_policy G__law_grown G__law_of
  have G__law_bent := kn__law_bent (P := P) (w := w) (mg := mg) (base := base) D__law_bent G__law_next G__law_of m_int m_isinstance m_len m_list m_str m_tuple
  have G_put_at := kn_put_at (P := P) (w := w) (mg := mg) (base := base) D_put_at G_inner G_with_inner m_list
  have G__law_all_paths := kn__law_all_paths (P := P) (w := w) (mg := mg) (base := base) D__law_all_paths G__law_inner m_enumerate
  have G__law_put := kn__law_put (P := P) (w := w) (mg := mg) (base := base) D__law_put G__law_inner m_len m_list m_tuple
  have G_replaced := kn_replaced (P := P) (w := w) (mg := mg) (base := base) D_replaced G_check_part G_check_policy G_put_at
  have G__law_due := kn__law_due (P := P) (w := w) (mg := mg) (base := base) D__law_due G__law_all_paths G__law_is_plan G__law_put
  have G_with_number := kn_with_number (P := P) (w := w) (mg := mg) (base := base) D_with_number G_part_at G_replaced g_NoPart tup_NUMBERED txt_NoPart
  have G__law_caught := kn__law_caught (P := P) (w := w) (mg := mg) (base := base) D__law_caught m_isinstance err_InvalidPolicy err_NoPart err_PolicyError exm_InvalidPolicy_PolicyError exm_NoPart_PolicyError exm_PolicyError_PolicyError g_InvalidPolicy g_NoPart g_PolicyError isN_InvalidPolicy isN_NoPart is_InvalidPolicy_InvalidPolicy is_InvalidPolicy_NoPart is_NoPart_InvalidPolicy is_NoPart_NoPart is_PolicyError_InvalidPolicy is_PolicyError_NoPart noat_InvalidPolicy_value noat_NoPart_value
  have G_law := fn_law (P := P) (w := w) (mg := mg) (base := base) FL rfl TB_law G__law_all_paths G__law_bent G__law_caught G__law_due G__law_of G__law_part G__law_policy G__law_urn G_replaced G_with_number m_len m_max m_min m_range m_repr g_law sysK
  exact G_law
end K04
/-! Pg: policies as a Lean type, the laws' drawn policies. -/
namespace Cp
open PySem L2
noncomputable def sbP_span : Sv := (sSeq (sAsg (gNm 2) (mV (mCall semU_next (aCons (mVc (mN 0)) (aCons (mV (mBin fAdd (mN 1) (mK (.int 1)))) aNil))))) (sRet (mTup (aCons (mV (mN 2)) (aCons (mV (mBin fAdd (mN 2) (mCall semU_next (aCons (mVc (mN 0)) (aCons (mV (mCal (gII (fun i j => if j < i then j else i)) (aCons (mV (mK (.int 4))) (aCons (mV (mBin fAdd (mBin (fI (fun _ _ => true) fun i j => i - j) (mN 1) (mN 2)) (mK (.int 1)))) aNil)))) aNil))))) aNil)))))
noncomputable def semP_span : Fs := bodyF 3 2 sbP_span
noncomputable def sbP_call : Sv := (sSeq (sPar [3, 4] (aCons (mV (mCall semU_next (aCons (mVc (mN 0)) (aCons (mV (mK (.int 5))) aNil)))) (aCons (mV (bV (mCmp gEq (mCall semU_next (aCons (mVc (mN 0)) (aCons (mV (mK (.int 4))) aNil))) (mK (.int 0))))) aNil))) (sSeq (sAsg (gNm 5) (mV (eIf (mCmp gNe (mN 3) (mK (.int 3))) (mCall semP_span (aCons (mVc (mN 0)) (aCons (mV (mN 2)) aNil))) (mK .none)))) (sSeq (sAsg (gNm 6) (mV (eIf (mCmp (gIn false) (mN 3) (mTup (aCons (mV (mK (.int 1))) (aCons (mV (mK (.int 2))) (aCons (mV (mK (.int 3))) aNil))))) (mCall semP_span (aCons (mVc (mN 0)) (aCons (mV (mN 2)) aNil))) (mK .none)))) (sRet (mTup (aCons (mV (mK (.str "call"))) (aCons (mV (mN 1)) (aCons (mV (mN 5)) (aCons (mV (mN 6)) (aCons (mV (mN 4)) aNil))))))))))
noncomputable def semP_call : Fs := bodyF 7 3 sbP_call
noncomputable def sbP_label : Sv := (sSeq (sAsg (gPl (mN 0) (mK (.int 1))) (mV (mBin fAdd (mBin fIx (mN 0) (mK (.int 1))) (mK (.int 1))))) (sRet (mBin fAdd (mBin fAdd (mBin fIx (mN 0) (mK (.int 2))) (mBin fIx (mK (.str "abcdefghijklmnopqrstuvwxyz0123456789xyz0")) (mBin (fI (fun _ _ => true) fun i j => i - j) (mBin fIx (mN 0) (mK (.int 1))) (mK (.int 1))))) (mBin fMulA (mK (.str "q")) (mCal (g1 fInt) (aCons (mV (bV (mCmp (gI fun i j => decide (j < i)) (mBin fIx (mN 0) (mK (.int 1))) (mK (.int 36))))) aNil))))))
noncomputable def semP_label : Fs := bodyF 1 1 sbP_label
noncomputable def sbP_grown (sem : Fs) : Sv := (sSeq (sAsg (gPl (mN 1) (mK (.int 0))) (mV (mBin (fI (fun _ _ => true) fun i j => i - j) (mBin fIx (mN 1) (mK (.int 0))) (mK (.int 1))))) (sSeq (sAsg (gNm 4) (mV (mK (.str "call")))) (sSeq (sIf (bAnd (mCmp (gI fun i j => decide (j < i)) (mBin fIx (mN 1) (mK (.int 0))) (mK (.int 0))) (mCmp (gI fun i j => decide (j < i)) (mN 3) (mK (.int 0)))) (sSeq (sAsg (gNm 5) (mV (mLst (aCons (mV (mK (.str "call"))) (aCons (mV (mK (.str "timeout"))) (aCons (mV (mK (.str "retry"))) (aCons (mV (mK (.str "wait"))) (aCons (mV (mK (.str "timeout"))) aNil)))))))) (sSeq (sIf (mCmp (gI fun i j => decide (j < i)) (mBin fIx (mN 1) (mK (.int 0))) (mK (.int 1))) (sAsg (gNm 5) (mV (mBin fAdd (mN 5) (mLst (aCons (mV (mK (.str "then"))) (aCons (mV (mK (.str "fallback"))) (aCons (mV (mK (.str "race"))) (aCons (mV (mK (.str "hedge"))) (aCons (mV (mK (.str "both"))) (aCons (mV (mK (.str "fallback"))) (aCons (mV (mK (.str "race"))) (aCons (mV (mK (.str "hedge"))) aNil)))))))))))) sNil) (sAsg (gNm 4) (mV (mCall semU_of (aCons (mVc (mN 0)) (aCons (mV (mN 5)) aNil))))))) sNil) (sSeq (sIf (mCmp gEq (mN 4) (mK (.str "call"))) (sRet (mCall semP_call (aCons (mVc (mN 0)) (aCons (mV (mCall semP_label (aCons (mVc (mN 1)) aNil))) (aCons (mV (mN 2)) aNil))))) sNil) (sSeq (sIf (mCmp gEq (mN 4) (mK (.str "wait"))) (sRet (mTup (aCons (mV (mK (.str "wait"))) (aCons (mV (mCall semU_next (aCons (mVc (mN 0)) (aCons (mV (mBin fAdd (mN 2) (mK (.int 1)))) aNil)))) aNil)))) sNil) (sSeq (sAsg (gNm 6) (mV (eIf (mCmp gEq (mCall semU_next (aCons (mVc (mN 0)) (aCons (mV (mK (.int 9))) aNil))) (mK (.int 0))) (mK .none) (mCall semU_next (aCons (mVc (mN 0)) (aCons (mV (mBin fAdd (mN 2) (mK (.int 2)))) aNil)))))) (sSeq (sIf (mCmp gEq (mN 4) (mK (.str "retry"))) (sSeq (sAsg (gNm 7) (mV (mCal (g1 fTuple) (aCons (mV (mLc (iRg1 (aCons (mV (mCall semU_of (aCons (mVc (mN 0)) (aCons (mV (mLst (aCons (mV (mK (.int 1))) (aCons (mV (mK (.int 1))) (aCons (mV (mK (.int 2))) (aCons (mV (mK (.int 0))) aNil)))))) aNil)))) aNil)) (gNm 10) ttY (mCall semU_next (aCons (mVc (mN 0)) (aCons (mV (mK (.int 3))) aNil))) [10])) aNil)))) (sRet (mTup (aCons (mV (mK (.str "retry"))) (aCons (mV (mN 7)) (aCons (mV (mCall sem (aCons (mVc (mN 0)) (aCons (mVc (mN 1)) (aCons (mV (mN 2)) (aCons (mV (mBin (fI (fun _ _ => true) fun i j => i - j) (mN 3) (mK (.int 1)))) aNil)))))) aNil)))))) sNil) (sSeq (sIf (mCmp gEq (mN 4) (mK (.str "timeout"))) (sRet (mTup (aCons (mV (mK (.str "timeout"))) (aCons (mV (mN 6)) (aCons (mV (mCall sem (aCons (mVc (mN 0)) (aCons (mVc (mN 1)) (aCons (mV (mN 2)) (aCons (mV (mBin (fI (fun _ _ => true) fun i j => i - j) (mN 3) (mK (.int 1)))) aNil)))))) aNil))))) sNil) (sSeq (sAsg (gPl (mN 1) (mK (.int 0))) (mV (mBin (fI (fun _ _ => true) fun i j => i - j) (mBin fIx (mN 1) (mK (.int 0))) (mK (.int 1))))) (sSeq (sAsg (gNm 8) (mV (mCall sem (aCons (mVc (mN 0)) (aCons (mVc (mN 1)) (aCons (mV (mN 2)) (aCons (mV (mBin (fI (fun _ _ => true) fun i j => i - j) (mN 3) (mK (.int 1)))) aNil))))))) (sSeq (sAsg (gPl (mN 1) (mK (.int 0))) (mV (mBin fAdd (mBin fIx (mN 1) (mK (.int 0))) (mK (.int 1))))) (sSeq (sAsg (gNm 9) (mV (mCall sem (aCons (mVc (mN 0)) (aCons (mVc (mN 1)) (aCons (mV (mN 2)) (aCons (mV (mBin (fI (fun _ _ => true) fun i j => i - j) (mN 3) (mK (.int 1)))) aNil))))))) (sSeq (sIf (mCmp (gIn false) (mN 4) (mTup (aCons (mV (mK (.str "then"))) (aCons (mV (mK (.str "both"))) aNil)))) (sRet (mTup (aCons (mV (mN 4)) (aCons (mV (mN 8)) (aCons (mV (mN 9)) aNil))))) sNil) (sRet (mTup (aCons (mV (mN 4)) (aCons (mV (mN 6)) (aCons (mV (mN 8)) (aCons (mV (mN 9)) aNil)))))))))))))))))))
noncomputable def semP_grown : Nat → Fs
  | 0 => fun _ _ => .no
  | n + 1 => bodyF 11 4 (sbP_grown (semP_grown n))
noncomputable def sbP_policy : Sv := (sRet (mCall (semP_grown 12) (aCons (mVc (mN 0)) (aCons (mVc (mLst (aCons (mV (mN 1)) (aCons (mV (mK (.int 0))) (aCons (mV (mCall semU_of (aCons (mVc (mN 0)) (aCons (mV (mLst (aCons (mV (mK (.str ""))) (aCons (mV (mK (.str "c"))) (aCons (mV (mK (.str "call"))) aNil))))) aNil)))) aNil))))) (aCons (mV (mN 2)) (aCons (mV (mK (.int 8))) aNil))))))
noncomputable def semP_policy : Fs := bodyF 3 3 sbP_policy
noncomputable def sbP_linner : Sv := (sRet (mDGet2 (mDct [((mK (.str "call")), (mTup aNil)), ((mK (.str "wait")), (mTup aNil)), ((mK (.str "retry")), (mSl (mN 0) (oSome (mK (.int 2))) oNone)), ((mK (.str "timeout")), (mSl (mN 0) (oSome (mK (.int 2))) oNone))]) (mBin fIx (mN 0) (mK (.int 0))) (mSl (mN 0) (oSome (mNeg (mK (.int 2)))) oNone)))
noncomputable def semP_linner : Fs := bodyF 1 1 sbP_linner
noncomputable def sbP_inner : Sv := (sSeq (sIf (mCmp (gIn false) (mBin fIx (mN 0) (mK (.int 0))) (mTup (aCons (mV (mK (.str "call"))) (aCons (mV (mK (.str "wait"))) aNil)))) (sRet (mTup aNil)) sNil) (sRet (eIf (mCmp (gIn false) (mBin fIx (mN 0) (mK (.int 0))) (mTup (aCons (mV (mK (.str "then"))) (aCons (mV (mK (.str "both"))) aNil)))) (mSl (mN 0) (oSome (mK (.int 1))) oNone) (mSl (mN 0) (oSome (mK (.int 2))) oNone))))
noncomputable def semP_inner : Fs := bodyF 1 1 sbP_inner
/-! ### texts written out -/
theorem ofS_inj {a b : String} (h : Str.ofString a = Str.ofString b) : a = b := by
  rw [Str.ofString_eq_toList, Str.ofString_eq_toList] at h
  have h1 : (a.toList.map Char.toNat).toArray = (b.toList.map Char.toNat).toArray := congrArg Str.cps h
  have h2 : a.toList.map Char.toNat = b.toList.map Char.toNat := by simpa using h1
  have inj : ∀ (x y : List Char), x.map Char.toNat = y.map Char.toNat → x = y := by
    intro x
    induction x with
    | nil => intro y h; cases y with
      | nil => rfl
      | cons _ _ => cases h
    | cons c x ih => intro y h; cases y with
      | nil => cases h
      | cons d y =>
        rw [List.map_cons, List.map_cons] at h
        injection h with e1 e2
        have : c = d := Char.ext (UInt32.toNat_inj.mp e1)
        rw [this, ih y e2]
  exact String.toList_inj.mp (inj _ _ h2)
@[simp] theorem ofS_eq (a b : String) : (Str.ofString a = Str.ofString b) = (a = b) := propext ⟨ofS_inj, fun h => by rw [h]⟩
@[simp] theorem ofS_beq (a b : String) : (Str.ofString a == Str.ofString b) = decide (a = b) := by
  by_cases h : a = b
  · subst h; simp
  · have : ¬ Str.ofString a = Str.ofString b := fun z => h (ofS_inj z)
    simp [h]
theorem sgn_ofS (s : String) : Sgn (Str.ofString s) := (Txs.ofString (n := s.length) s (Nat.le_refl _)).2
@[simp] theorem gEq_lit (a b : String) : gEq (.str (Str.ofString a)) (.str (Str.ofString b)) = some (decide (a = b)) := by
  rw [gEq_str (sgn_ofS a) (sgn_ofS b)]; simp
@[simp] theorem gNe_lit (a b : String) : gNe (.str (Str.ofString a)) (.str (Str.ofString b)) = some (!decide (a = b)) := by
  rw [gNe_str (sgn_ofS a) (sgn_ofS b)]; simp
@[simp] theorem gNe_int (x y : Int) : gNe (.int x) (.int y) = some (!decide (x = y)) := by
  have h := gEq_int x y
  unfold gEq at h
  unfold gNe
  split at h
  · rename_i hh
    rw [if_pos hh]
    injection h with h
    rw [h]
  · cases h
/-! ### policies -/
inductive Two where
  | thn | both
inductive Num where
  | fall | race | hedge
def Two.s : Two → String
  | .thn => "then"
  | .both => "both"
def Num.s : Num → String
  | .fall => "fallback"
  | .race => "race"
  | .hedge => "hedge"
abbrev Span := Option (Int × Int)
inductive Pol where
  | call (l : Str) (g b : Span) (h : Bool)
  | wait (n : Int)
  | two (k : Two) (a b : Pol)
  | num (k : Num) (n : Option Int) (a b : Pol)
  | retry (ps : List Int) (a : Pol)
  | tmo (n : Option Int) (a : Pol)
def spD : Span → PyData
  | none => .none
  | some p => .tuple [.int p.1, .int p.2]
def nuD : Option Int → PyData
  | none => .none
  | some n => .int n
def Pol.pd : Pol → PyData
  | .call l g b h => .tuple [.str "call", .str l, spD g, spD b, .bool h]
  | .wait n => .tuple [.str "wait", .int n]
  | .two k a b => .tuple [.str k.s, a.pd, b.pd]
  | .num k n a b => .tuple [.str k.s, nuD n, a.pd, b.pd]
  | .retry ps a => .tuple [.str "retry", .tuple (ps.map PyData.int), a.pd]
  | .tmo n a => .tuple [.str "timeout", nuD n, a.pd]
def Pol.inn : Pol → List Pol
  | .call _ _ _ _ => []
  | .wait _ => []
  | .two _ a b => [a, b]
  | .num _ _ a b => [a, b]
  | .retry _ a => [a]
  | .tmo _ a => [a]
def Pol.kind : Pol → String
  | .call _ _ _ _ => "call"
  | .wait _ => "wait"
  | .two k _ _ => k.s
  | .num k _ _ _ => k.s
  | .retry _ _ => "retry"
  | .tmo _ _ => "timeout"
def Pol.size : Pol → Nat
  | .call _ _ _ _ => 1
  | .wait _ => 1
  | .two _ a b => 1 + a.size + b.size
  | .num _ _ a b => 1 + a.size + b.size
  | .retry _ a => 1 + a.size
  | .tmo _ a => 1 + a.size
def Pol.depth : Pol → Nat
  | .call _ _ _ _ => 1
  | .wait _ => 1
  | .two _ a b => 1 + max a.depth b.depth
  | .num _ _ a b => 1 + max a.depth b.depth
  | .retry _ a => 1 + a.depth
  | .tmo _ a => 1 + a.depth
/-- the labels of the calls, from left to right -/
def Pol.labs : Pol → List Str
  | .call l _ _ _ => [l]
  | .wait _ => []
  | .two _ a b => a.labs ++ b.labs
  | .num _ _ a b => a.labs ++ b.labs
  | .retry _ a => a.labs
  | .tmo _ a => a.labs
theorem Pol.size_pos : ∀ p : Pol, 1 ≤ p.size
  | .call _ _ _ _ => Nat.le_refl _
  | .wait _ => Nat.le_refl _
  | .two _ _ _ => by unfold Pol.size; omega
  | .num _ _ _ _ => by unfold Pol.size; omega
  | .retry _ _ => by unfold Pol.size; omega
  | .tmo _ _ => by unfold Pol.size; omega
theorem Pol.labs_le : ∀ p : Pol, p.labs.length ≤ p.size
  | .call _ _ _ _ => Nat.le_refl _
  | .wait _ => Nat.zero_le _
  | .two _ a b => by have := a.labs_le; have := b.labs_le; unfold Pol.size Pol.labs; rw [List.length_append]; omega
  | .num _ _ a b => by have := a.labs_le; have := b.labs_le; unfold Pol.size Pol.labs; rw [List.length_append]; omega
  | .retry _ a => by have := a.labs_le; unfold Pol.size Pol.labs; omega
  | .tmo _ a => by have := a.labs_le; unfold Pol.size Pol.labs; omega
/-- numbers as drawn: spans up to L, numbers up to L + 1, at most two pauses up to 2 -/
def spB (L : Int) : Span → Prop
  | none => True
  | some p => 0 ≤ p.1 ∧ p.1 ≤ p.2 ∧ p.2 ≤ L
def nuB (L : Int) : Option Int → Prop
  | none => True
  | some n => 0 ≤ n ∧ n ≤ L
def Pol.Bnd (L : Int) : Pol → Prop
  | .call _ g b h => spB L g ∧ spB L b ∧ (g = none → b ≠ none)
  | .wait n => 0 ≤ n ∧ n ≤ L
  | .two _ a b => a.Bnd L ∧ b.Bnd L
  | .num _ n a b => nuB (L + 1) n ∧ a.Bnd L ∧ b.Bnd L
  | .retry ps a => (ps.length ≤ 2 ∧ ∀ x ∈ ps, 0 ≤ x ∧ x ≤ 2) ∧ a.Bnd L
  | .tmo n a => nuB (L + 1) n ∧ a.Bnd L
def abcC (k : Nat) : Nat := (Str.ofString "abcdefghijklmnopqrstuvwxyz0123456789xyz0").cps.toList.getD k 0
/-- the k-th label of a stem -/
def labK (stem : Str) (k : Nat) : Str := stem ++ (⟨#[abcC (k - 1)]⟩ : Str) ++ Txt.mul (Str.ofString "q") (if 36 < k then 1 else 0)
def Pol.Lab (stem : Str) (k : Nat) (p : Pol) : Prop := p.labs = (List.range p.labs.length).map fun x => labK stem (k + x + 1)
theorem lab_app {stem : Str} {k : Nat} {a b : List Str} (ha : a = (List.range a.length).map fun x => labK stem (k + x + 1)) (hb : b = (List.range b.length).map fun x => labK stem (k + a.length + x + 1)) :
    a ++ b = (List.range (a ++ b).length).map fun x => labK stem (k + x + 1) := by
  have e : ((fun x => labK stem (k + x + 1)) ∘ fun x => a.length + x) = fun x => labK stem (k + a.length + x + 1) := by
    funext x
    show labK stem (k + (a.length + x) + 1) = labK stem (k + a.length + x + 1)
    congr 1; omega
  rw [List.length_append, List.range_add, List.map_append, List.map_map, e, ← ha, ← hb]
/-! ### two cells of a store -/
/-- the store with u at i and l at j -/
def s2 (st : Sto) (i j : Nat) (u l : Cl) : Sto := (st.set i u).set j l
structure Ij (st : Sto) (i j : Nat) : Prop where
  ne : i ≠ j
  hi : i < st.length
  hj : j < st.length
section
variable {st : Sto} {i j : Nat} {u u' l l' : Cl}
theorem s2_i (h : Ij st i j) : (s2 st i j u l)[i]? = some u := by
  unfold s2; rw [List.getElem?_set_ne (Ne.symm h.ne), List.getElem?_set_self h.hi]
theorem s2_j (h : Ij st i j) : (s2 st i j u l)[j]? = some l := by
  unfold s2; rw [List.getElem?_set_self (by simpa using h.hj)]
theorem s2_si (h : Ij st i j) : (s2 st i j u l).set i u' = s2 st i j u' l := by
  unfold s2; rw [List.set_comm _ _ (Ne.symm h.ne), List.set_set]
theorem s2_sj (h : Ij st i j) : (s2 st i j u l).set j l' = s2 st i j u l' := by
  unfold s2; rw [List.set_set]
theorem s2_len : (s2 st i j u l).length = st.length := by unfold s2; simp
theorem s2_tk : (s2 st i j u l).take st.length = s2 st i j u l := List.take_of_length_le (by rw [s2_len]; exact Nat.le_refl _)
theorem set_selfq {α : Type} {l : List α} {i : Nat} {x : α} (h : l[i]? = some x) : l.set i x = l := by
  apply List.ext_getElem?
  intro k
  by_cases e : i = k
  · subst e; rw [List.getElem?_set_self (List.getElem?_eq_some_iff.mp h).1, h]
  · rw [List.getElem?_set_ne e]
theorem s2_self (h1 : st[i]? = some u) (h2 : st[j]? = some l) : s2 st i j u l = st := by
  unfold s2
  rw [set_selfq h1, set_selfq h2]
end
end Cp
/-! Pw: the laws' drawn policies, walked. -/
namespace Cp
open PySem L2
section
variable {E : Er → Sto → Prop} {st : Sto} {P : Rv → Sto → Prop}
theorem wv_E {α : Type} {E : Er → Sto → Prop} {r : Res α} {P : α → Sto → Prop} (h : WVe noE r P) : WVe E r P := by
  cases r with
  | ok a s => exact h
  | er e s => exact False.elim h
  | no => exact h
/-! ### inner -/
theorem szl : sizeLine = 16777216 := rfl
theorem inn_pd (p : Pol) : ∃ r, p.pd = .tuple (.str (Str.ofString p.kind) :: r) := by
  cases p <;> exact ⟨_, rfl⟩
@[simp] theorem frz_m (k : List (PyData × PyData)) : frz (.n (.m k)) = .d (.dict k) := rfl
theorem cut3 (a b c : PyData) : cutD [a, b, c] (some 2) none = [c] := rfl
theorem cut4 (a b c d : PyData) : cutD [a, b, c, d] (some 2) none = [c, d] := rfl
theorem cut4n (a b c d : PyData) : cutD [a, b, c, d] (some (-2)) none = [c, d] := rfl
theorem cut3n (a b c : PyData) : cutD [a, b, c] (some (-2)) none = [b, c] := rfl
theorem cut31 (a b c : PyData) : cutD [a, b, c] (some 1) none = [b, c] := rfl
theorem w_linner {p : Pol} (h : P (.d (.tuple (p.inn.map Pol.pd))) st) : WVe E (semP_linner [.d p.pd] st) P := by
  unfold semP_linner sbP_linner
  rw [W_body]
  cases p with
  | call l g b hh => simp [Pol.pd, Pol.inn, keysD, keyD, lookK, keyB]; exact h
  | wait n => simp [Pol.pd, Pol.inn, keysD, keyD, lookK, keyB]; exact h
  | two k a b => cases k <;> simp [Pol.pd, Pol.inn, Two.s, keysD, keyD, lookK, keyB, cut3n] <;> exact h
  | num k n a b => cases k <;> simp [Pol.pd, Pol.inn, Num.s, keysD, keyD, lookK, keyB, cut4n] <;> exact h
  | retry ps a => simp [Pol.pd, Pol.inn, keysD, keyD, lookK, keyB, cut3]; exact h
  | tmo n a => simp [Pol.pd, Pol.inn, keysD, keyD, lookK, keyB, cut3]; exact h
theorem w_inner {p : Pol} (h : P (.d (.tuple (p.inn.map Pol.pd))) st) : WVe E (semP_inner [.d p.pd] st) P := by
  unfold semP_inner sbP_inner
  rw [W_body]
  cases p with
  | call l g b hh => simp [Pol.pd, Pol.inn, gIn, itemsD, flatD, eqF, szl]; exact h
  | wait n => simp [Pol.pd, Pol.inn, gIn, itemsD, flatD, eqF, szl]; exact h
  | two k a b => cases k <;> simp [Pol.pd, Pol.inn, Two.s, gIn, itemsD, flatD, eqF, cut31, szl] <;> exact h
  | num k n a b => cases k <;> simp [Pol.pd, Pol.inn, Num.s, gIn, itemsD, flatD, eqF, cut4, szl] <;> exact h
  | retry ps a => simp [Pol.pd, Pol.inn, gIn, itemsD, flatD, eqF, cut3, szl]; exact h
  | tmo n a => simp [Pol.pd, Pol.inn, gIn, itemsD, flatD, eqF, cut3, szl]; exact h
/-! ### what is drawn -/
variable {i j : Nat} {u : Cl} {m L : Int}
theorem w_span (hu : st[i]? = some u) (hU : Urn m u) (hm : m < 2 ^ 190) (hL : 0 ≤ L) (hL2 : L < 2 ^ 100) (h : ∀ (p : Int × Int) u', spB L (some p) → Urn (m + 2) u' → P (.d (spD (some p))) (st.set i u')) : WVe noE (semP_span [.c i, .d (.int L)] st) P := by
  unfold semP_span sbP_span
  rw [W_body]
  have hi : i < st.length := (List.getElem?_eq_some_iff.mp hu).1
  have hset : ∀ c, (st.set i c)[i]? = some c := fun c => List.getElem?_set_self hi
  simp
  refine w_next hu hU (by omega) (by omega) (by omega) fun low u1 a1 b1 hU1 => ?_
  simp
  refine w_next (hset u1) hU1 (by omega) (by split <;> omega) (by split <;> omega) fun r u2 a2 b2 hU2 => ?_
  have hs : sizeLine = 16777216 := rfl
  simp
  refine ⟨by omega, h (low, low + r) u2 ⟨a1, by show low ≤ low + r; omega, ?_⟩ (hU2.mono (by omega))⟩
  show low + r ≤ L
  split at b2 <;> omega
theorem w_call {l : Str} (hu : st[i]? = some u) (hU : Urn m u) (hm : m < 2 ^ 189) (hL : 0 ≤ L) (hL2 : L < 2 ^ 100) (h : ∀ g b hh u', spB L g → spB L b → (g = none → b ≠ none) → Urn (m + 6) u' → P (.d (Pol.call l g b hh).pd) (st.set i u')) : WVe noE (semP_call [.c i, .d (.str l), .d (.int L)] st) P := by
  unfold semP_call sbP_call
  rw [W_body]
  have hi : i < st.length := (List.getElem?_eq_some_iff.mp hu).1
  have hset : ∀ c, (st.set i c)[i]? = some c := fun c => List.getElem?_set_self hi
  have hs : sizeLine = 16777216 := rfl
  simp
  refine w_next hu hU (by omega) (by omega) (by omega) fun way u1 a1 b1 hU1 => ?_
  simp
  refine w_next (hset u1) hU1 (by omega) (by omega) (by omega) fun hg u2 a2 b2 hU2 => ?_
  simp [szl]
  have gin : gIn false (.int way) (.tuple [.int 1, .int 2, .int 3]) = some (decide (way = 1 ∨ way = 2 ∨ way = 3)) := by
    simp [gIn, itemsD, flatD, eqF]
    by_cases c1 : way = 1
    · subst c1; rfl
    · by_cases c2 : way = 2
      · subst c2; rfl
      · by_cases c3 : way = 3
        · subst c3; rfl
        · simp [c1, c2, c3]; omega
  rw [gin]
  split
  · rename_i h3
    subst h3
    simp
    refine w_span (hset u2) hU2 (by omega) hL hL2 fun p u3 hp hU3 => ?_
    simp [spD, szl]
    exact h none (some p) _ u3 trivial hp (by simp) (hU3.mono (by omega))
  · refine w_span (hset u2) hU2 (by omega) hL hL2 fun p u3 hp hU3 => ?_
    simp [spD, szl]
    split
    · refine w_span (hset u3) hU3 (by omega) hL hL2 fun q u4 hq hU4 => ?_
      simp [spD, szl]
      exact h (some p) (some q) _ u4 hp hq (by simp) (hU4.mono (by omega))
    · exact h (some p) none _ u3 hp trivial (by simp) (hU3.mono (by omega))
theorem abc_at {k : Nat} (hk : k < 40) : fIx (.str (Str.ofString "abcdefghijklmnopqrstuvwxyz0123456789xyz0")) (.int k) = some (.d (.str ⟨#[abcC k]⟩)) := by
  have hl : (Str.ofString "abcdefghijklmnopqrstuvwxyz0123456789xyz0").cps.toList.length = 40 := by decide +kernel
  show (if (Str.ofString "abcdefghijklmnopqrstuvwxyz0123456789xyz0").length ≤ sizeLine then (atI (Str.ofString "abcdefghijklmnopqrstuvwxyz0123456789xyz0").cps.toList k).map fun c => Rv.d (.str ⟨#[c]⟩) else none) = _
  unfold abcC
  rw [if_pos (by decide +kernel), atI_at rfl (by omega), List.getD_eq_getElem?_getD, List.getElem?_eq_getElem (by omega)]
  rfl
theorem w_label {a : Int} {k : Nat} {stem : Str} {j : Nat} (hj : st[j]? = some (.l [.int a, .int k, .str stem])) (hk : k < 40) (hl : stem.length ≤ 1000) (h : P (.d (.str (labK stem (k + 1)))) (st.set j (.l [.int a, .int (k + 1 : Nat), .str stem]))) : WVe noE (semP_label [.c j] st) P := by
  unfold semP_label sbP_label
  rw [W_body]
  have hi : j < st.length := (List.getElem?_eq_some_iff.mp hj).1
  have hset : ∀ c, (st.set j c)[j]? = some c := fun c => List.getElem?_set_self hi
  have e36 : ((36 : Int) < (k : Int) + 1) = (36 < k + 1) := propext (by omega)
  have q1 : (Str.ofString "q").length = 1 := by decide +kernel
  have l1 : (⟨#[abcC k]⟩ : Str).length = 1 := rfl
  have lm : (Txt.mul (Str.ofString "q") (if 36 < k + 1 then 1 else 0)).length ≤ 1 := by split <;> decide +kernel
  have e2 : labK stem (k + 1) = stem ++ (⟨#[abcC k]⟩ : Str) ++ Txt.mul (Str.ofString "q") (if 36 < k + 1 then 1 else 0) := rfl
  rw [e2] at h
  have eq : ((k + 1 : Nat) : Int) = (k : Int) + 1 := by omega
  rw [eq] at h
  have l2 : (stem ++ (⟨#[abcC k]⟩ : Str)).length = stem.length + 1 := by rw [strLen_append, l1]
  have c1 : stem.length + 1 ≤ 16777216 := by omega
  simp [hj, hset, szl, abc_at hk, e36, q1, l1, c1, l2]
  exact ⟨⟨by split <;> omega, by split <;> omega, by split <;> omega⟩, by omega, h⟩
end
end Cp
/-! Pz: the laws' drawn policies, grown. -/
namespace Cp
open PySem L2
theorem seq_cut {E : Er → Sto → Prop} {x y : Sv} {ρ : En} {st : Sto} {N B C : En → Sto → Prop} {R : Rv → Sto → Prop} (I : En → Sto → Prop) (h1 : WSe E (x ρ st) I B C R) (h2 : ∀ ρ s, I ρ s → WSe E (y ρ s) N B C R) : WSe E (sSeq x y ρ st) N B C R := by
  unfold sSeq
  cases q : x ρ st with
  | nx ρ' s => rw [q] at h1; exact h2 _ _ h1
  | bk ρ' s => rw [q] at h1; exact h1
  | ct ρ' s => rw [q] at h1; exact h1
  | rt r s => rw [q] at h1; exact h1
  | er e s => rw [q] at h1; exact h1
  | no => rw [q] at h1; exact h1
/-- what is left: parts, labels made, stem -/
abbrev lft (a : Int) (k : Nat) (stem : Str) : Cl := .l [.int a, .int k, .str stem]
def KindOk (a dp : Int) (kd : String) : Prop := kd = "call" ∨ ((0 < a ∧ 0 < dp) ∧ (kd = "timeout" ∨ kd = "retry" ∨ kd = "wait" ∨ (1 < a ∧ (kd = "then" ∨ kd = "fallback" ∨ kd = "race" ∨ kd = "hedge" ∨ kd = "both"))))
section
variable {E : Er → Sto → Prop} {st : Sto} {P : Rv → Sto → Prop} {i j : Nat}
theorem w_grown : ∀ (f : Nat) {st : Sto} {P : Rv → Sto → Prop} {u : Cl} {m L dp a : Int} {k : Nat} {stem : Str}, Ij st i j → Urn m u → 1 ≤ a → a ≤ 60 → (k : Int) + a ≤ 40 → 0 ≤ L → L < 2 ^ 90 → 0 ≤ dp → dp < f → stem.length ≤ 100 → m + 8 * a < 2 ^ 180 →
    (∀ (p : Pol) (u' : Cl), p.Bnd L → (p.size : Int) ≤ a → (p.depth : Int) ≤ dp + 1 → p.Lab stem k → Urn (m + 8 * p.size) u' → P (.d p.pd) (s2 st i j u' (lft (a - p.size) (k + p.labs.length) stem))) →
    WVe noE (semP_grown f [.c i, .c j, .d (.int L), .d (.int dp)] (s2 st i j u (lft a k stem))) P
  | 0, _, _, _, _, _, _, _, _, _, _, _, _, _, _, _, _, hd, hf, _, _, _ => absurd hf (by omega)
  | f + 1, st, P, u, m, L, dp, a, k, stem, J, hU, a1, a60, ka, hL, hL2, hd, hf, hst, hm, h => by
    show WVe noE (bodyF 11 4 (sbP_grown (semP_grown f)) _ _) P
    unfold sbP_grown
    rw [W_body]
    refine ⟨rfl, ?_⟩
    refine seq_cut (fun ρ s => ρ = [some (.c i), some (.c j), some (.d (.int L)), some (.d (.int dp)), none, none, none, none, none, none, none] ∧ s = s2 st i j u (lft (a - 1) k stem)) (by simp [szl, s2_j J, s2_sj J]) ?_
    rintro ρ s ⟨rfl, rfl⟩
    refine seq_cut (fun ρ s => ρ = [some (.c i), some (.c j), some (.d (.int L)), some (.d (.int dp)), some (.d (.str "call")), none, none, none, none, none, none] ∧ s = s2 st i j u (lft (a - 1) k stem)) (by simp) ?_
    rintro ρ s ⟨rfl, rfl⟩
    refine seq_cut (fun ρ s => ∃ (kd : String) (x5 : Option Vl) (u' : Cl), ρ = [some (.c i), some (.c j), some (.d (.int L)), some (.d (.int dp)), some (.d (.str kd)), x5, none, none, none, none, none] ∧ s = s2 st i j u' (lft (a - 1) k stem) ∧ Urn (m + 1) u' ∧ KindOk (a - 1) dp kd) ?_ ?_
    · have fin : ∀ {xs : List PyData} {Q : Rv → Sto → Prop}, (∀ x ∈ xs, ∃ kd : String, x = .str (Str.ofString kd) ∧ KindOk (a - 1) dp kd) → xs ≠ [] → xs.length ≤ sizeLine → (∀ (kd : String) u', Urn (m + 1) u' → KindOk (a - 1) dp kd → Q (.d (.str (Str.ofString kd))) (s2 st i j u' (lft (a - 1) k stem))) →
          WVe noE (semU_of [.c i, .d (.list xs)] (s2 st i j u (lft (a - 1) k stem))) fun r s' => back (s2 st i j u (lft (a - 1) k stem)).length r s' Q := by
        intro xs Q hxs h0 hl hQ
        refine w_of (s2_i J) hU (by omega) h0 hl fun x u' hx hU' => ?_
        obtain ⟨kd, rfl, hk⟩ := hxs x hx
        rw [s2_si J, back_d, s2_len, s2_tk]
        exact hQ kd u' hU' hk
      simp [szl, s2_j J]
      split
      · split
        · split
          · refine fin (fun x hx => ?_) (by simp) (by decide) fun kd u' hU' hk => ⟨kd, rfl, u', rfl, hU', hk⟩
            simp at hx
            rcases hx with rfl | rfl | rfl | rfl | rfl | rfl | rfl | rfl | rfl | rfl | rfl | rfl | rfl <;> exact ⟨_, rfl, by unfold KindOk; simp; try omega⟩
          · refine fin (fun x hx => ?_) (by simp) (by decide) fun kd u' hU' hk => ⟨kd, rfl, u', rfl, hU', hk⟩
            simp at hx
            rcases hx with rfl | rfl | rfl | rfl | rfl <;> exact ⟨_, rfl, by unfold KindOk; simp; try omega⟩
        · exact ⟨u, rfl, hU.mono (by omega), .inl rfl⟩
      · exact ⟨u, rfl, hU.mono (by omega), .inl rfl⟩
    · rintro ρ s ⟨kd, x5, u', rfl, rfl, hU', hk⟩
      rcases hk with rfl | ⟨⟨ha0, hd0⟩, hk⟩
      · simp
        refine w_label (a := a - 1) (s2_j J) (by omega) (by omega) ?_
        rw [s2_sj J]
        simp [s2_len, s2_tk]
        refine w_call (s2_i J) hU' (by omega) hL (by omega) fun g b hh u2 hg hb hgb hU2 => ?_
        rw [s2_si J]
        simp [s2_len, s2_tk]
        have := h (Pol.call (labK stem (k + 1)) g b hh) u2 ⟨hg, hb, hgb⟩ (by show ((1 : Nat) : Int) ≤ a; omega) (by show ((1 : Nat) : Int) ≤ dp + 1; omega) rfl (hU2.mono (by show m + 1 + 6 ≤ m + 8 * ((1 : Nat) : Int); omega))
        exact this
      by_cases hw : kd = "wait"
      · subst hw
        simp
        refine w_next (s2_i J) hU' (by omega) (by omega) (by omega) fun n u2 n0 n1 hU2 => ?_
        rw [s2_si J]
        simp [s2_len, s2_tk, szl]
        have := h (Pol.wait n) u2 ⟨n0, by omega⟩ (by show ((1 : Nat) : Int) ≤ a; omega) (by show ((1 : Nat) : Int) ≤ dp + 1; omega) rfl (hU2.mono (by show m + 1 + 1 ≤ m + 8 * ((1 : Nat) : Int); omega))
        exact this
      have hc : kd ≠ "call" := by rcases hk with rfl | rfl | rfl | ⟨_, rfl | rfl | rfl | rfl | rfl⟩ <;> decide
      refine seq_cut (fun ρ s => ρ = [some (.c i), some (.c j), some (.d (.int L)), some (.d (.int dp)), some (.d (.str kd)), x5, none, none, none, none, none] ∧ s = s2 st i j u' (lft (a - 1) k stem)) (by simp [hc]) ?_
      rintro ρ s ⟨rfl, rfl⟩
      refine seq_cut (fun ρ s => ρ = [some (.c i), some (.c j), some (.d (.int L)), some (.d (.int dp)), some (.d (.str kd)), x5, none, none, none, none, none] ∧ s = s2 st i j u' (lft (a - 1) k stem)) (by simp [hw]) ?_
      rintro ρ s ⟨rfl, rfl⟩
      refine seq_cut (fun ρ s => ∃ (n : Option Int) (u3 : Cl), ρ = [some (.c i), some (.c j), some (.d (.int L)), some (.d (.int dp)), some (.d (.str kd)), x5, some (.d (nuD n)), none, none, none, none] ∧ s = s2 st i j u3 (lft (a - 1) k stem) ∧ Urn (m + 3) u3 ∧ nuB (L + 1) n) ?_ ?_
      · simp
        refine w_next (s2_i J) hU' (by omega) (by omega) (by omega) fun n9 u2 _ _ hU2 => ?_
        rw [s2_si J]
        simp [s2_len, s2_tk]
        split
        · exact ⟨none, rfl, u2, rfl, hU2.mono (by omega), trivial⟩
        · refine w_next (s2_i J) hU2 (by omega) (by omega) (by omega) fun n u3 n0 n1 hU3 => ?_
          rw [s2_si J]
          simp [s2_len, s2_tk]
          exact ⟨some n, rfl, u3, rfl, hU3.mono (by omega), n0, by omega⟩
      rintro ρ s ⟨n, u3, rfl, rfl, hU3, hn⟩
      rcases hk with rfl | rfl | rfl | ⟨ha1, hk⟩
      · simp
        refine w_grown f J hU3 (by omega) (by omega) (by omega) hL hL2 (by omega) (by omega) hst (by omega) fun p u4 hp hs hdp hlab hU4 => ?_
        simp [s2_len, s2_tk, szl]
        have := h (Pol.tmo n p) u4 ⟨hn, hp⟩ (by show ((1 + p.size : Nat) : Int) ≤ a; omega) (by show ((1 + p.depth : Nat) : Int) ≤ dp + 1; omega) hlab (hU4.mono (by show m + 3 + 8 * (p.size : Int) ≤ m + 8 * ((1 + p.size : Nat) : Int); omega))
        have e : a - ((Pol.tmo n p).size : Int) = a - 1 - (p.size : Int) := by show a - ((1 + p.size : Nat) : Int) = _; omega
        rw [e] at this
        exact this
      · refine seq_cut (fun _ _ => False) ?_ (fun _ _ z => z.elim)
        simp [szl]
        refine w_of (xs := [.int 1, .int 1, .int 2, .int 0]) (s2_i J) hU3 (by omega) (by simp) (by decide) fun x u4 hx hU4 => ?_
        rw [s2_si J]
        have hx' : ∃ c : Int, x = .int c ∧ 0 ≤ c ∧ c ≤ 2 := by
          simp at hx
          rcases hx with rfl | rfl | rfl <;> exact ⟨_, rfl, by decide, by decide⟩
        obtain ⟨c, rfl, c0, c2⟩ := hx'
        simp [s2_len, s2_tk]
        refine ⟨rOk_of2 (by decide) (by decide) (by omega) (by omega), ?_⟩
        refine lcGo_by (I := fun x s acc => ∃ (ps : List Int) (u5 : Cl), acc = ps.map PyData.int ∧ ps.length = x ∧ (∀ y ∈ ps, 0 ≤ y ∧ y ≤ 2) ∧ s = s2 st i j u5 (lft (a - 1) k stem) ∧ Urn (m + 4 + x) u5) _ 0 [] ⟨[], u4, rfl, rfl, fun _ z => (nomatch z), rfl, hU4.mono (by omega)⟩ (fun _ _ _ _ => trivial) ?_ ?_
        · rintro x d s acc hd' ⟨ps, u5, rfl, hl, hps, rfl, hU5⟩
          have hx2 : x < 2 := by
            have := (List.getElem?_eq_some_iff.mp hd').1
            have e : (rngD 0 c).length = c.toNat := by unfold rngD; simp
            omega
          simp [wipeE]
          refine w_next (s2_i J) hU5 (by omega) (by omega) (by omega) fun y u6 y0 y1 hU6 => ?_
          rw [s2_si J]
          simp [s2_len, s2_tk, szl]
          refine ⟨by omega, ps ++ [y], by simp, by simp; omega, fun z hz => ?_, u6, rfl, hU6.mono (by omega)⟩
          rcases List.mem_append.mp hz with hz | hz
          · exact hps z hz
          · simp at hz; omega
        · rintro s acc ⟨ps, u5, rfl, hl, hps, rfl, hU5⟩
          have hlen : ps.length ≤ 2 := by
            have e : (rngD 0 c).length = c.toNat := by unfold rngD; simp
            omega
          have hU5' : Urn (m + 6) u5 := hU5.mono (by omega)
          refine w_grown f J hU5' (by omega) (by omega) (by omega) hL hL2 (by omega) (by omega) hst (by omega) fun p u7 hp hs hdp hlab hU7 => ?_
          simp [s2_len, s2_tk, szl]
          have := h (Pol.retry ps p) u7 ⟨⟨hlen, hps⟩, hp⟩ (by show ((1 + p.size : Nat) : Int) ≤ a; omega) (by show ((1 + p.depth : Nat) : Int) ≤ dp + 1; omega) hlab (hU7.mono (by show m + 6 + 8 * (p.size : Int) ≤ m + 8 * ((1 + p.size : Nat) : Int); omega))
          have e : a - ((Pol.retry ps p).size : Int) = a - 1 - (p.size : Int) := by show a - ((1 + p.size : Nat) : Int) = _; omega
          rw [e] at this
          exact this
      · exact absurd rfl hw
      · have hc2 : kd ≠ "retry" ∧ kd ≠ "timeout" := by rcases hk with rfl | rfl | rfl | rfl | rfl <;> decide
        refine seq_cut (fun ρ s => ρ = [some (.c i), some (.c j), some (.d (.int L)), some (.d (.int dp)), some (.d (.str kd)), x5, some (.d (nuD n)), none, none, none, none] ∧ s = s2 st i j u3 (lft (a - 1) k stem)) (by simp [hc2.1]) ?_
        rintro ρ s ⟨rfl, rfl⟩
        refine seq_cut (fun ρ s => ρ = [some (.c i), some (.c j), some (.d (.int L)), some (.d (.int dp)), some (.d (.str kd)), x5, some (.d (nuD n)), none, none, none, none] ∧ s = s2 st i j u3 (lft (a - 1) k stem)) (by simp [hc2.2]) ?_
        rintro ρ s ⟨rfl, rfl⟩
        refine seq_cut (fun ρ s => ρ = [some (.c i), some (.c j), some (.d (.int L)), some (.d (.int dp)), some (.d (.str kd)), x5, some (.d (nuD n)), none, none, none, none] ∧ s = s2 st i j u3 (lft (a - 1 - 1) k stem)) (by simp [szl, s2_j J, s2_sj J]) ?_
        rintro ρ s ⟨rfl, rfl⟩
        refine seq_cut (fun ρ s => ∃ (p : Pol) (u4 : Cl), ρ = [some (.c i), some (.c j), some (.d (.int L)), some (.d (.int dp)), some (.d (.str kd)), x5, some (.d (nuD n)), none, some (.d p.pd), none, none] ∧ s = s2 st i j u4 (lft (a - 1 - 1 - p.size) (k + p.labs.length) stem) ∧ p.Bnd L ∧ (p.size : Int) ≤ a - 2 ∧ (p.depth : Int) ≤ dp ∧ p.Lab stem k ∧ Urn (m + 3 + 8 * p.size) u4) ?_ ?_
        · simp
          refine w_grown f J hU3 (by omega) (by omega) (by omega) hL hL2 (by omega) (by omega) hst (by omega) fun p u4 hp hs hdp hlab hU4 => ?_
          simp [s2_len, s2_tk, szl]
          exact ⟨p, rfl, u4, rfl, hp, by omega, by omega, hlab, hU4⟩
        rintro ρ s ⟨p, u4, rfl, rfl, hp, hps, hpd, hpl, hU4⟩
        have hsz := p.size_pos
        have hll := p.labs_le
        refine seq_cut (fun ρ s => ρ = [some (.c i), some (.c j), some (.d (.int L)), some (.d (.int dp)), some (.d (.str kd)), x5, some (.d (nuD n)), none, some (.d p.pd), none, none] ∧ s = s2 st i j u4 (lft (a - 1 - 1 - p.size + 1) (k + p.labs.length) stem)) (by simp [szl, s2_j J, s2_sj J, lft]) ?_
        rintro ρ s ⟨rfl, rfl⟩
        refine seq_cut (fun ρ s => ∃ (q : Pol) (u5 : Cl), ρ = [some (.c i), some (.c j), some (.d (.int L)), some (.d (.int dp)), some (.d (.str kd)), x5, some (.d (nuD n)), none, some (.d p.pd), some (.d q.pd), none] ∧ s = s2 st i j u5 (lft (a - 1 - 1 - p.size + 1 - q.size) (k + p.labs.length + q.labs.length) stem) ∧ q.Bnd L ∧ (p.size + q.size : Int) ≤ a - 1 ∧ (q.depth : Int) ≤ dp ∧ q.Lab stem (k + p.labs.length) ∧ Urn (m + 3 + 8 * p.size + 8 * q.size) u5) ?_ ?_
        · simp
          refine w_grown f J hU4 (by omega) (by omega) (by omega) hL hL2 (by omega) (by omega) hst (by omega) fun q u5 hq hs hqd hlab hU5 => ?_
          simp [s2_len, s2_tk, szl]
          exact ⟨q, rfl, u5, rfl, hq, by omega, by omega, hlab, hU5⟩
        rintro ρ s ⟨q, u5, rfl, rfl, hq, hqs, hqd, hql, hU5⟩
        have hsz2 := q.size_pos
        have hlab : (p.labs ++ q.labs) = (List.range (p.labs ++ q.labs).length).map fun x => labK stem (k + x + 1) := lab_app hpl hql
        have hmax : max p.depth q.depth = p.depth ∨ max p.depth q.depth = q.depth := by omega
        have e2 : ((k + (p.labs ++ q.labs).length : Nat) : Int) = (k : Int) + p.labs.length + q.labs.length := by rw [List.length_append]; omega
        have fT : ∀ t : Two, P (.d (Pol.two t p q).pd) (s2 st i j u5 (lft (a - 1 - 1 - p.size + 1 - q.size) (k + p.labs.length + q.labs.length) stem)) := fun t => by
          have := h (Pol.two t p q) u5 ⟨hp, hq⟩ (by show ((1 + p.size + q.size : Nat) : Int) ≤ a; omega) (by show ((1 + max p.depth q.depth : Nat) : Int) ≤ dp + 1; rcases hmax with e | e <;> rw [e] <;> omega) hlab (hU5.mono (by show m + 3 + 8 * (p.size : Int) + 8 * (q.size : Int) ≤ m + 8 * ((1 + p.size + q.size : Nat) : Int); omega))
          have e : a - ((Pol.two t p q).size : Int) = a - 1 - 1 - p.size + 1 - q.size := by show a - ((1 + p.size + q.size : Nat) : Int) = _; omega
          have e3 : k + (Pol.two t p q).labs.length = k + p.labs.length + q.labs.length := by show k + (p.labs ++ q.labs).length = _; rw [List.length_append]; omega
          rw [e, e3] at this
          exact this
        have fN : ∀ t : Num, P (.d (Pol.num t n p q).pd) (s2 st i j u5 (lft (a - 1 - 1 - p.size + 1 - q.size) (k + p.labs.length + q.labs.length) stem)) := fun t => by
          have := h (Pol.num t n p q) u5 ⟨hn, hp, hq⟩ (by show ((1 + p.size + q.size : Nat) : Int) ≤ a; omega) (by show ((1 + max p.depth q.depth : Nat) : Int) ≤ dp + 1; rcases hmax with e | e <;> rw [e] <;> omega) hlab (hU5.mono (by show m + 3 + 8 * (p.size : Int) + 8 * (q.size : Int) ≤ m + 8 * ((1 + p.size + q.size : Nat) : Int); omega))
          have e : a - ((Pol.num t n p q).size : Int) = a - 1 - 1 - p.size + 1 - q.size := by show a - ((1 + p.size + q.size : Nat) : Int) = _; omega
          have e3 : k + (Pol.num t n p q).labs.length = k + p.labs.length + q.labs.length := by show k + (p.labs ++ q.labs).length = _; rw [List.length_append]; omega
          rw [e, e3] at this
          exact this
        rcases hk with rfl | rfl | rfl | rfl | rfl
        · simp [gIn, itemsD, flatD, eqF, szl]; exact fT .thn
        · simp [gIn, itemsD, flatD, eqF, szl]; exact fN .fall
        · simp [gIn, itemsD, flatD, eqF, szl]; exact fN .race
        · simp [gIn, itemsD, flatD, eqF, szl]; exact fN .hedge
        · simp [gIn, itemsD, flatD, eqF, szl]; exact fT .both
theorem w_policy {i : Nat} {u : Cl} {m L most : Int} (hu : st[i]? = some u) (hU : Urn m u) (h1 : 1 ≤ most) (h2 : most ≤ 38) (hL : 0 ≤ L) (hL2 : L < 2 ^ 90) (hm : m < 2 ^ 170)
    (h : ∀ (p : Pol) (stem : Str) (u' : Cl), p.Bnd L → (p.size : Int) ≤ most → p.depth ≤ 9 → p.Lab stem 0 → stem ∈ [Str.ofString "", Str.ofString "c", Str.ofString "call"] → Urn (m + 1 + 8 * most) u' → P (.d p.pd) (st.set i u')) :
    WVe noE (semP_policy [.c i, .d (.int most), .d (.int L)] st) P := by
  unfold semP_policy sbP_policy
  rw [W_body]
  have hi : i < st.length := (List.getElem?_eq_some_iff.mp hu).1
  simp [szl]
  refine w_of (xs := [.str (Str.ofString ""), .str (Str.ofString "c"), .str (Str.ofString "call")]) hu hU (by omega) (by simp) (by decide) fun x u1 hx hU1 => ?_
  have hx' : ∃ stem : Str, x = .str stem ∧ stem ∈ [Str.ofString "", Str.ofString "c", Str.ofString "call"] := by
    simp at hx
    rcases hx with rfl | rfl | rfl <;> exact ⟨_, rfl, by simp⟩
  obtain ⟨stem, rfl, hst⟩ := hx'
  have hsl : stem.length ≤ 100 := by
    simp at hst
    rcases hst with rfl | rfl | rfl <;> decide +kernel
  simp [szl]
  have J : Ij (st.set i u1 ++ [lft most 0 stem]) i st.length := ⟨by omega, by simp; omega, by simp⟩
  have e0 : st.set i u1 ++ [Cl.l [.int most, .int 0, .str stem]] = s2 (st.set i u1 ++ [lft most 0 stem]) i st.length u1 (lft most 0 stem) := by
    rw [s2_self]
    · rfl
    · rw [List.getElem?_append_left (by simpa using hi), List.getElem?_set_self hi]
    · rw [List.getElem?_append_right (by simp)]; simp
  rw [e0]
  refine w_grown 12 J hU1 h1 (by omega) (by omega) hL hL2 (by omega) (by omega) hsl (by omega) fun p u2 hp hs hd hlab hU2 => ?_
  have et : ∀ c d, (s2 (st.set i u1 ++ [lft most 0 stem]) i st.length c d).take st.length = st.set i c := fun c d => by
    unfold s2
    rw [List.set_append_left _ _ (by simpa using hi), List.set_append_right _ _ (by simp), List.set_set]
    exact List.take_left' (by simp)
  simp [et]
  exact h p stem u2 hp hs (by omega) hlab hst (hU2.mono (by omega))
end
end Cp
/-! Ps: policies, their parts, paths, forms. -/
namespace Cp
open PySem L2
noncomputable def sbS_is_label : Sv := (sRet (eAnd (mIsi "str" (mN 0)) (eAnd (bV (mChn (gI fun i j => decide (i ≤ j)) (gI fun i j => decide (i ≤ j)) (mK (.int 1)) (mCal (gLen) (aCons (mV (mN 0)) aNil)) (mK (.int 8)))) (mCal (g1 fAll) (aCons (mV (mLc (iOf (mN 0)) (gNm 1) ttY (bV (mCmp (gInS false) (mN 1) (mK (.str "abcdefghijklmnopqrstuvwxyz0123456789")))) [1])) aNil)))))
noncomputable def semS_is_label : Fs := bodyF 2 1 sbS_is_label
noncomputable def sbS_is_number : Sv := (sRet (eAnd (mIsi "int" (mN 0)) (eAnd (eNot (mIsi "bool" (mN 0))) (bV (mChn (gI fun i j => decide (i ≤ j)) (gI fun i j => decide (i ≤ j)) (mK (.int 0)) (mN 0) (mK (.int 1000000000)))))))
noncomputable def semS_is_number : Fs := bodyF 1 1 sbS_is_number
noncomputable def sbS_is_span : Sv := (sSeq (sIf (bOr (bNot (mTru (mIsi "tuple" (mN 0)))) (bOr (mCmp gNe (mCal (gLen) (aCons (mV (mN 0)) aNil)) (mK (.int 2))) (bNot (mTru (mCal (g1 fAll) (aCons (mV (mLc (iOf (mN 0)) (gNm 1) ttY (mCall semS_is_number (aCons (mV (mN 1)) aNil)) [1])) aNil)))))) (sRet (mK (.bool false))) sNil) (sRet (bV (mCmp (gI fun i j => decide (i ≤ j)) (mBin fIx (mN 0) (mK (.int 0))) (mBin fIx (mN 0) (mK (.int 1)))))))
noncomputable def semS_is_span : Fs := bodyF 2 1 sbS_is_span
noncomputable def sbS_is_call : Sv := (sSeq (sAsg (gTp 5 (gCons9 (gNm 1) (gCons9 (gNm 2) (gCons9 (gNm 3) (gCons9 (gNm 4) (gCons9 (gNm 5) gNil9)))))) (mV (mN 0))) (sSeq (sIf (bOr (bNot (mTru (mCall semS_is_label (aCons (mV (mN 2)) aNil)))) (bNot (mTru (mIsi "bool" (mN 5))))) (sRet (mK (.bool false))) sNil) (sSeq (sIf (bNot (mTru (mCal (g1 fAll) (aCons (mV (mLc (iOf (mTup (aCons (mV (mN 3)) (aCons (mV (mN 4)) aNil)))) (gNm 6) ttY (eOr (bV (mCmp gIsN (mN 6) (mK .none))) (mCall semS_is_span (aCons (mV (mN 6)) aNil))) [6])) aNil)))) (sRet (mK (.bool false))) sNil) (sRet (eOr (mN 5) (eOr (bV (mCmp gNotN (mN 3) (mK .none))) (bV (mCmp gNotN (mN 4) (mK .none)))))))))
noncomputable def semS_is_call : Fs := bodyF 7 1 sbS_is_call
noncomputable def sbS_has_number : Sv := (sSeq (sIf (mCmp gEq (mN 0) (mK (.str "wait"))) (sRet (mCall semS_is_number (aCons (mV (mN 1)) aNil))) sNil) (sSeq (sIf (mCmp gEq (mN 0) (mK (.str "retry"))) (sRet (eAnd (mIsi "tuple" (mN 1)) (eAnd (bV (mCmp (gI fun i j => decide (i ≤ j)) (mCal (gLen) (aCons (mV (mN 1)) aNil)) (mK (.int 5)))) (mCal (g1 fAll) (aCons (mV (mLc (iOf (mN 1)) (gNm 2) ttY (mCall semS_is_number (aCons (mV (mN 2)) aNil)) [2])) aNil))))) sNil) (sRet (eOr (bV (mCmp gIsN (mN 1) (mK .none))) (mCall semS_is_number (aCons (mV (mN 1)) aNil))))))
noncomputable def semS_has_number : Fs := bodyF 3 2 sbS_has_number
noncomputable def sbS_is_index : Sv := (sRet (eAnd (mIsi "int" (mN 0)) (eAnd (eNot (mIsi "bool" (mN 0))) (bV (mChn (gI fun i j => decide (i ≤ j)) (gI fun i j => decide (i < j)) (mK (.int 0)) (mN 0) (mN 1))))))
noncomputable def semS_is_index : Fs := bodyF 2 2 sbS_is_index
noncomputable def sbS_check_part : Sv := (sSeq (sIf (bNot (mTru (mIsi "tuple" (mN 1)))) (sRaise1 "NoPart" "value" (aCons (mV (mN 1)) aNil)) sNil) (sSeq (sAsg (gNm 2) (mV (mN 0))) (sFor (iOf (mN 1)) (gNm 3) (sSeq (sAsg (gNm 4) (mV (mCall semP_inner (aCons (mV (mN 2)) aNil)))) (sSeq (sIf (bNot (mTru (mCall semS_is_index (aCons (mV (mN 3)) (aCons (mV (mCal (gLen) (aCons (mV (mN 4)) aNil))) aNil))))) (sRaise1 "NoPart" "value" (aCons (mV (mN 1)) aNil)) sNil) (sAsg (gNm 2) (mV (mBin fIx (mN 4) (mN 3)))))))))
noncomputable def semS_check_part : Fs := bodyF 5 2 sbS_check_part
noncomputable def sbS_part_at : Sv := (sSeq (sExp (mCall semS_check_part (aCons (mV (mN 0)) (aCons (mV (mN 1)) aNil)))) (sSeq (sAsg (gNm 2) (mV (mN 0))) (sSeq (sFor (iOf (mN 1)) (gNm 3) (sAsg (gNm 2) (mV (mBin fIx (mCall semP_inner (aCons (mV (mN 2)) aNil)) (mN 3))))) (sRet (mN 2)))))
noncomputable def semS_part_at : Fs := bodyF 4 2 sbS_part_at
noncomputable def sbS_with_inner : Sv := (sRet (mBin fAdd (mSl (mN 0) oNone (oSome (mBin (fI (fun _ _ => true) fun i j => i - j) (mCal (gLen) (aCons (mV (mN 0)) aNil)) (mCal (gLen) (aCons (mV (mN 1)) aNil))))) (mCal (g1 fTuple) (aCons (mV (mN 1)) aNil))))
noncomputable def semS_with_inner : Fs := bodyF 2 2 sbS_with_inner
noncomputable def sbS_put_at (sem : Fs) : Sv := (sSeq (sIf (mCmp gEq (mN 1) (mTup aNil)) (sRet (mN 2)) sNil) (sSeq (sAsg (gNm 3) (mVc (mCal (g1 fList) (aCons (mV (mCall semP_inner (aCons (mV (mN 0)) aNil))) aNil)))) (sSeq (sAsg (gPl (mN 3) (mBin fIx (mN 1) (mK (.int 0)))) (mV (mCall sem (aCons (mV (mBin fIx (mN 3) (mBin fIx (mN 1) (mK (.int 0))))) (aCons (mV (mSl (mN 1) (oSome (mK (.int 1))) oNone)) (aCons (mV (mN 2)) aNil)))))) (sRet (mCall semS_with_inner (aCons (mV (mN 0)) (aCons (mV (mN 3)) aNil)))))))
noncomputable def semS_put_at : Nat → Fs
  | 0 => fun _ _ => .no
  | n + 1 => bodyF 4 3 (sbS_put_at (semS_put_at n))
noncomputable def sbS_all_paths (sem : Fs) : Sv := (sSeq (sAsg (gNm 1) (mVc (mLst (aCons (mV (mTup aNil)) aNil)))) (sSeq (sFor (iEn (aCons (mV (mCall semP_linner (aCons (mV (mN 0)) aNil))) aNil)) (gTp 2 (gCons9 (gNm 2) (gCons9 (gNm 3) gNil9))) (sExp (mExt (mN 1) (mLc (iOf (mCall sem (aCons (mV (mN 3)) aNil))) (gNm 4) ttY (mBin fAdd (mTup (aCons (mV (mN 2)) aNil)) (mN 4)) [4])))) (sRet (mN 1))))
noncomputable def semS_all_paths : Nat → Fs
  | 0 => fun _ _ => .no
  | n + 1 => bodyF 5 1 (sbS_all_paths (semS_all_paths n))
noncomputable def sbS_part : Sv := (sSeq (sFor (iOf (mN 1)) (gNm 2) (sAsg (gNm 0) (mV (mBin fIx (mCall semP_linner (aCons (mV (mN 0)) aNil)) (mN 2))))) (sRet (mN 0)))
noncomputable def semS_part : Fs := bodyF 3 2 sbS_part
noncomputable def sbS_lput (sem : Fs) : Sv := (sSeq (sIf (mCmp gEq (mN 1) (mTup aNil)) (sRet (mN 2)) sNil) (sSeq (sAsg (gNm 3) (mVc (mCal (g1 fList) (aCons (mV (mCall semP_linner (aCons (mV (mN 0)) aNil))) aNil)))) (sSeq (sAsg (gPl (mN 3) (mBin fIx (mN 1) (mK (.int 0)))) (mV (mCall sem (aCons (mV (mBin fIx (mN 3) (mBin fIx (mN 1) (mK (.int 0))))) (aCons (mV (mSl (mN 1) (oSome (mK (.int 1))) oNone)) (aCons (mV (mN 2)) aNil)))))) (sRet (mBin fAdd (mSl (mN 0) oNone (oSome (mBin (fI (fun _ _ => true) fun i j => i - j) (mCal (gLen) (aCons (mV (mN 0)) aNil)) (mCal (gLen) (aCons (mV (mN 3)) aNil))))) (mCal (g1 fTuple) (aCons (mV (mN 3)) aNil)))))))
noncomputable def semS_lput : Nat → Fs
  | 0 => fun _ _ => .no
  | n + 1 => bodyF 4 3 (sbS_lput (semS_lput n))
section
variable {st : Sto} {P : Rv → Sto → Prop} {E : Er → Sto → Prop}
def SIG : Str := Str.ofString "abcdefghijklmnopqrstuvwxyz0123456789"
structure IsLab (x : Str) : Prop where
  lo : 1 ≤ x.length
  hi : x.length ≤ 8
  sg : ∀ c ∈ x.cps.toList, c ∈ SIG.cps.toList
@[simp] theorem kb_str_str : kitB "str" "str" = some true := by decide +kernel
@[simp] theorem kb_tuple_tuple : kitB "tuple" "tuple" = some true := by decide +kernel
@[simp] theorem kb_int_int : kitB "int" "int" = some true := by decide +kernel
@[simp] theorem kb_int_bool : kitB "int" "bool" = some false := by decide +kernel
@[simp] theorem kb_bool_bool : kitB "bool" "bool" = some true := by decide +kernel
@[simp] theorem kb_bool_int : kitB "bool" "int" = some true := by decide +kernel
@[simp] theorem kb_str_tuple : kitB "str" "tuple" = some false := by decide +kernel
@[simp] theorem kb_str_int : kitB "str" "int" = some false := by decide +kernel
@[simp] theorem kb_tuple_str : kitB "tuple" "str" = some false := by decide +kernel
@[simp] theorem kb_tuple_int : kitB "tuple" "int" = some false := by decide +kernel
@[simp] theorem kb_NoneType_int : kitB "NoneType" "int" = some false := by decide +kernel
@[simp] theorem kb_NoneType_tuple : kitB "NoneType" "tuple" = some false := by decide +kernel
@[simp] theorem kb_NoneType_str : kitB "NoneType" "str" = some false := by decide +kernel
@[simp] theorem kb_list_tuple : kitB "list" "tuple" = some false := by decide +kernel
@[simp] theorem kb_int_tuple : kitB "int" "tuple" = some false := by decide +kernel
@[simp] theorem kb_int_str : kitB "int" "str" = some false := by decide +kernel
@[simp] theorem fLen_s (x : Str) : fLen (.str x) = if x.length ≤ sizeLine then some (.d (.int x.length)) else none := rfl
@[simp] theorem srcOf_s (x : Str) : srcOf st (.d (.str x)) = some (signs x, none) := rfl
@[simp] theorem tyD_s (x : Str) : tyD (.str x) = "str" := rfl
@[simp] theorem tyD_t (x : List PyData) : tyD (.tuple x) = "tuple" := rfl
@[simp] theorem tyD_i (x : Int) : tyD (.int x) = "int" := rfl
@[simp] theorem tyD_b (x : Bool) : tyD (.bool x) = "bool" := rfl
@[simp] theorem tyD_n : tyD .none = "NoneType" := rfl
@[simp] theorem truD_bS (b : Bool) : truD (.bool b) = some b := rfl
def SpOk : Span → Prop
  | none => True
  | some p => 0 ≤ p.1 ∧ p.1 ≤ p.2 ∧ p.2 ≤ 1000000000
/-- what a policy's node keeps -/
def NuOk : Option Int → Prop
  | none => True
  | some n => 0 ≤ n ∧ n ≤ 1000000000
def Pol.Node : Pol → Prop
  | .call l g b h => IsLab l ∧ SpOk g ∧ SpOk b ∧ (h = true ∨ g ≠ none ∨ b ≠ none)
  | .wait n => 0 ≤ n ∧ n ≤ 1000000000
  | .two _ _ _ => True
  | .num _ n _ _ => NuOk n
  | .retry ps _ => ps.length ≤ 5 ∧ ∀ x ∈ ps, 0 ≤ x ∧ x ≤ 1000000000
  | .tmo n _ => NuOk n
def Pol.All (Q : Pol → Prop) : Pol → Prop
  | .call l g b h => Q (.call l g b h)
  | .wait n => Q (.wait n)
  | .two k a b => Q (.two k a b) ∧ a.All Q ∧ b.All Q
  | .num k n a b => Q (.num k n a b) ∧ a.All Q ∧ b.All Q
  | .retry ps a => Q (.retry ps a) ∧ a.All Q
  | .tmo n a => Q (.tmo n a) ∧ a.All Q
theorem Pol.All.inn {Q : Pol → Prop} {p q : Pol} (h : p.All Q) (hq : q ∈ p.inn) : q.All Q := by
  cases p with
  | call _ _ _ _ => cases hq
  | wait _ => cases hq
  | two k a b => simp [Pol.inn] at hq; rcases hq with rfl | rfl; exact h.2.1; exact h.2.2
  | num k n a b => simp [Pol.inn] at hq; rcases hq with rfl | rfl; exact h.2.1; exact h.2.2
  | retry ps a => simp [Pol.inn] at hq; subst hq; exact h.2
  | tmo n a => simp [Pol.inn] at hq; subst hq; exact h.2
theorem gNe_none_i (i : Int) : gNe .none (.int i) = some true := by
  unfold gNe
  rfl
theorem shp_pol {ds : List PyData} (h : ∀ d ∈ ds, okS d ∧ d.depth ≤ 50) : gEq (.tuple ds) (.tuple []) = some ds.isEmpty := by
  have e := gEq_at (a := .tuple ds) (b := .tuple []) (okSs_of fun d hd => (h d hd).1) trivial (by
    show PyData.depthAll ds + 1 ≤ 64
    have := depthAll_le (B := 50) (ds := ds) fun d hd => (h d hd).2
    omega) (by decide)
  rw [e]
  cases ds with
  | nil => rfl
  | cons _ _ => rfl
/-- a policy's texts and numbers can be shown and compared -/
theorem Pol.okS : ∀ {p : Pol}, p.All Pol.Node → Cp.okS p.pd
  | .call l g b h, hn => by
    obtain ⟨h1, h2, h3, h4⟩ := hn
    have sp : ∀ g : Span, SpOk g → Cp.okS (spD g) := fun g hg => by
      cases g with
      | none => trivial
      | some p => exact ⟨log_small (k := 40) (by have := hg.1; have := hg.2; omega) (by decide), log_small (k := 40) (by have := hg.1; have := hg.2; omega) (by decide), trivial⟩
    refine ⟨sgn_ofS _, ?_, sp g h2, sp b h3, trivial, trivial⟩
    intro c hc
    have hz := h1.sg c hc
    exact sgn_ofS _ c hz
  | .wait n, hn => ⟨sgn_ofS _, log_small (k := 40) (by have := hn.1; have := hn.2; omega) (by decide), trivial⟩
  | .two k a b, hn => ⟨sgn_ofS _, Pol.okS hn.2.1, Pol.okS hn.2.2, trivial⟩
  | .num k n a b, hn => ⟨sgn_ofS _, (by
    cases n with
    | none => trivial
    | some n => exact log_small (k := 40) (by have := hn.1.1; have := hn.1.2; omega) (by decide)), Pol.okS hn.2.1, Pol.okS hn.2.2, trivial⟩
  | .retry ps a, hn => ⟨sgn_ofS _, (okSs_of fun d hd => by
      obtain ⟨x, hx, rfl⟩ := List.mem_map.mp hd
      exact log_small (k := 40) (by have := hn.1.2 x hx; omega) (by decide)), Pol.okS hn.2, trivial⟩
  | .tmo n a, hn => ⟨sgn_ofS _, (by
    cases n with
    | none => trivial
    | some n => exact log_small (k := 40) (by have := hn.1.1; have := hn.1.2; omega) (by decide)), Pol.okS hn.2, trivial⟩
theorem Pol.pd_depth : ∀ p : Pol, p.pd.depth ≤ p.depth + 1
  | .call l g b h => by
    have sp : ∀ g : Span, (spD g).depth ≤ 1 := fun g => by cases g <;> first | exact Nat.zero_le _ | exact Nat.le_refl _
    show PyData.depthAll [.str _, .str l, spD g, spD b, .bool h] + 1 ≤ 2
    have := sp g
    have := sp b
    simp [PyData.depthAll, PyData.depth]; omega
  | .wait n => by show PyData.depthAll [.str _, .int n] + 1 ≤ 2; simp [PyData.depthAll, PyData.depth]
  | .two k a b => by
    show PyData.depthAll [.str _, a.pd, b.pd] + 1 ≤ _
    have := a.pd_depth
    have := b.pd_depth
    simp [PyData.depthAll, PyData.depth, Pol.depth]; omega
  | .num k n a b => by
    show PyData.depthAll [.str _, nuD n, a.pd, b.pd] + 1 ≤ _
    have := a.pd_depth
    have := b.pd_depth
    have : (nuD n).depth = 0 := by cases n <;> rfl
    simp [PyData.depthAll, PyData.depth, Pol.depth]; omega
  | .retry ps a => by
    show PyData.depthAll [.str _, .tuple (ps.map PyData.int), a.pd] + 1 ≤ _
    have := a.pd_depth
    have h0 : PyData.depthAll (ps.map PyData.int) ≤ 0 := depthAll_le fun d hd => by
      obtain ⟨x, _, rfl⟩ := List.mem_map.mp hd; exact Nat.le_refl _
    have h1 : a.depth ≥ 1 := by cases a <;> simp [Pol.depth] <;> omega
    have : (PyData.tuple (ps.map PyData.int)).depth = PyData.depthAll (ps.map PyData.int) + 1 := rfl
    simp [PyData.depthAll, PyData.depth, Pol.depth]; omega
  | .tmo n a => by
    show PyData.depthAll [.str _, nuD n, a.pd] + 1 ≤ _
    have := a.pd_depth
    have : (nuD n).depth = 0 := by cases n <;> rfl
    simp [PyData.depthAll, PyData.depth, Pol.depth]; omega
/-! ### paths -/
def Pol.paths : Pol → List (List Nat)
  | .call _ _ _ _ => [[]]
  | .wait _ => [[]]
  | .two _ a b => [] :: (a.paths.map (0 :: ·) ++ b.paths.map (1 :: ·))
  | .num _ _ a b => [] :: (a.paths.map (0 :: ·) ++ b.paths.map (1 :: ·))
  | .retry _ a => [] :: a.paths.map (0 :: ·)
  | .tmo _ a => [] :: a.paths.map (0 :: ·)
def paD (q : List Nat) : PyData := .tuple (q.map fun (n : Nat) => .int (n : Int))
theorem Pol.paths_len : ∀ p : Pol, p.paths.length = p.size
  | .call _ _ _ _ => rfl
  | .wait _ => rfl
  | .two _ a b => by simp [Pol.paths, Pol.size, a.paths_len, b.paths_len]; omega
  | .num _ _ a b => by simp [Pol.paths, Pol.size, a.paths_len, b.paths_len]; omega
  | .retry _ a => by simp [Pol.paths, Pol.size, a.paths_len]; omega
  | .tmo _ a => by simp [Pol.paths, Pol.size, a.paths_len]; omega
theorem Pol.paths_short : ∀ (p : Pol), ∀ q ∈ p.paths, q.length + 1 ≤ p.depth
  | .call _ _ _ _, q, h => by simp [Pol.paths] at h; subst h; simp [Pol.depth]
  | .wait _, q, h => by simp [Pol.paths] at h; subst h; simp [Pol.depth]
  | .two _ a b, q, h => by
    simp [Pol.paths] at h
    rcases h with rfl | ⟨r, hr, rfl⟩ | ⟨r, hr, rfl⟩
    · simp [Pol.depth]
    · have := a.paths_short r hr; simp [Pol.depth]; omega
    · have := b.paths_short r hr; simp [Pol.depth]; omega
  | .num _ _ a b, q, h => by
    simp [Pol.paths] at h
    rcases h with rfl | ⟨r, hr, rfl⟩ | ⟨r, hr, rfl⟩
    · simp [Pol.depth]
    · have := a.paths_short r hr; simp [Pol.depth]; omega
    · have := b.paths_short r hr; simp [Pol.depth]; omega
  | .retry _ a, q, h => by
    simp [Pol.paths] at h
    rcases h with rfl | ⟨r, hr, rfl⟩
    · simp [Pol.depth]
    · have := a.paths_short r hr; simp [Pol.depth]; omega
  | .tmo _ a, q, h => by
    simp [Pol.paths] at h
    rcases h with rfl | ⟨r, hr, rfl⟩
    · simp [Pol.depth]
    · have := a.paths_short r hr; simp [Pol.depth]; omega
@[simp] theorem tq1 (s : Sto) (x : Cl) (t : Sto) : (s ++ (x :: t)).take (s.length + 1) = s ++ [x] := by
  rw [List.take_append, List.take_of_length_le (by omega), Nat.add_sub_cancel_left]; rfl
theorem w_all_paths : ∀ (f : Nat) {p : Pol} {st : Sto} {P : Rv → Sto → Prop}, p.depth ≤ f → p.size ≤ 1000 → p.depth ≤ 100 → P (.c st.length) (st ++ [.l (p.paths.map paD)]) → WVe noE (semS_all_paths f [.d p.pd] st) P
  | 0, p, _, _, h, _, _, _ => by have : 1 ≤ p.depth := by cases p <;> simp [Pol.depth] <;> omega
                                 omega
  | f + 1, p, st, P, hf, hs, hd, h => by
    show WVe noE (bodyF 5 1 (sbS_all_paths (semS_all_paths f)) _ _) P
    unfold sbS_all_paths
    rw [W_body]
    have one : ∀ {a : Pol} {i : Nat} {xs : List PyData} {x y z : Option Vl} {N B C : En → Sto → Prop} {R : Rv → Sto → Prop}, a.depth ≤ f → a.size ≤ 1000 → a.depth ≤ 99 → xs.length ≤ 2000 →
        (∀ x y, N [some (.d p.pd), some (.c st.length), x, y, z] (st ++ [.l (xs ++ (a.paths.map (i :: ·)).map paD)])) →
        WSe noE (sExp (mExt (mN 1) (mLc (iOf (mCall (semS_all_paths f) (aCons (mV (mN 3)) aNil))) (gNm 4) ttY (mBin fAdd (mTup (aCons (mV (mN 2)) aNil)) (mN 4)) [4])) [some (.d p.pd), some (.c st.length), some (.d (.int (i : Int))), some (.d a.pd), z] (st ++ [.l xs])) N B C R := by
      intro a i xs x y z N B C R h1 h2 h3 h4 h5
      simp
      refine w_all_paths f h1 h2 (by omega) ?_
      simp
      refine lc_map (fun d => match d with
        | .tuple ds => .tuple (.int (i : Int) :: ds)
        | d => d) (fun d hd => ?_) (by rw [List.length_map, Pol.paths_len, szl]; omega) ?_
      · obtain ⟨q, hq, rfl⟩ := List.mem_map.mp hd
        have := a.paths_short q hq
        simp [wipeE, paD, szl]
        omega
      · have e : ((a.paths.map paD).map fun d => match d with
          | .tuple ds => PyData.tuple (.int (i : Int) :: ds)
          | d => d) = (a.paths.map (i :: ·)).map paD := by
          rw [List.map_map, List.map_map]; rfl
        rw [e]
        have hl : xs.length + ((a.paths.map (i :: ·)).map paD).length ≤ sizeLine := by
          rw [List.length_map, List.length_map, Pol.paths_len, szl]; omega
        simp only [gr0, tq1, WO_some, fExt, itemsD, if_pos hl]
        rw [List.set_append_right _ _ (Nat.le_refl _), Nat.sub_self]
        exact h5 _ _
    refine ⟨rfl, ?_⟩
    refine seq_cut (fun ρ s => ρ = [some (.d p.pd), some (.c st.length), none, none, none] ∧ s = st ++ [.l [paD []]]) (by simp [szl, paD]) ?_
    rintro ρ s ⟨rfl, rfl⟩
    refine seq_cut (fun ρ s => (∃ x y, ρ = [some (.d p.pd), some (.c st.length), x, y, none]) ∧ s = st ++ [.l (p.paths.map paD)]) ?_ ?_
    · simp
      refine wv_E (w_linner ?_)
      have e0 : ∀ (x : Cl), (st ++ [x]).take (st.length + 1) = st ++ [x] := fun x => tq1 st x []
      cases p with
      | call l g b hh => simp [Pol.inn, enumF, e0, Pol.paths]; rw [forGo_n]; exact ⟨⟨_, _, rfl⟩, rfl⟩
      | wait n => simp [Pol.inn, enumF, e0, Pol.paths]; rw [forGo_n]; exact ⟨⟨_, _, rfl⟩, rfl⟩
      | retry ps a =>
        simp [Pol.depth, Pol.size] at hf hs hd
        simp [Pol.inn, enumF, e0]
        rw [forGo_c]
        simp only [W_gTp, W_gCons, W_gNm, W_gNil, List.set, List.length_cons, List.length_nil, true_and]
        refine one (i := 0) (x := none) (y := none) (by omega) (by omega) (by omega) (by simp) fun x y => ?_
        rw [forGo_n]
        exact ⟨⟨_, _, rfl⟩, by simp [Pol.paths]⟩
      | tmo n a =>
        simp [Pol.depth, Pol.size] at hf hs hd
        simp [Pol.inn, enumF, e0]
        rw [forGo_c]
        simp only [W_gTp, W_gCons, W_gNm, W_gNil, List.set, List.length_cons, List.length_nil, true_and]
        refine one (i := 0) (x := none) (y := none) (by omega) (by omega) (by omega) (by simp) fun x y => ?_
        rw [forGo_n]
        exact ⟨⟨_, _, rfl⟩, by simp [Pol.paths]⟩
      | two k a b =>
        simp [Pol.depth, Pol.size] at hf hs hd
        simp [Pol.inn, enumF, e0]
        rw [forGo_c]
        simp only [W_gTp, W_gCons, W_gNm, W_gNil, List.set, List.length_cons, List.length_nil, true_and]
        refine one (i := 0) (x := none) (y := none) (by omega) (by omega) (by omega) (by simp) fun x y => ?_
        rw [forGo_c]
        simp only [W_gTp, W_gCons, W_gNm, W_gNil, List.set, List.length_cons, List.length_nil, true_and]
        refine one (i := 1) (x := none) (y := none) (by omega) (by omega) (by omega) (by simp [Pol.paths_len]; omega) fun x y => ?_
        rw [forGo_n]
        exact ⟨⟨_, _, rfl⟩, by simp [Pol.paths]⟩
      | num k n a b =>
        simp [Pol.depth, Pol.size] at hf hs hd
        simp [Pol.inn, enumF, e0]
        rw [forGo_c]
        simp only [W_gTp, W_gCons, W_gNm, W_gNil, List.set, List.length_cons, List.length_nil, true_and]
        refine one (i := 0) (x := none) (y := none) (by omega) (by omega) (by omega) (by simp) fun x y => ?_
        rw [forGo_c]
        simp only [W_gTp, W_gCons, W_gNm, W_gNil, List.set, List.length_cons, List.length_nil, true_and]
        refine one (i := 1) (x := none) (y := none) (by omega) (by omega) (by omega) (by simp [Pol.paths_len]; omega) fun x y => ?_
        rw [forGo_n]
        exact ⟨⟨_, _, rfl⟩, by simp [Pol.paths]⟩
    · rintro ρ s ⟨⟨x, y, rfl⟩, rfl⟩
      simp
      exact h
end
end Cp
/-! Ps2: parts at paths. -/
namespace Cp
open PySem L2
section
variable {st : Sto} {P : Rv → Sto → Prop} {E : Er → Sto → Prop}
def stepP (p : Pol) (d : PyData) : Option Pol := match d with
  | .int i => if 0 ≤ i ∧ i < p.inn.length then p.inn[i.toNat]? else none
  | _ => none
def walkP : Pol → List PyData → Option Pol
  | p, [] => some p
  | p, d :: ds => match stepP p d with
    | some q => walkP q ds
    | none => none
def pathP (p : Pol) : PyData → Option Pol
  | .tuple ds => walkP p ds
  | _ => none
def idxB (d : PyData) (n : Nat) : Bool := match d with
  | .int i => decide (0 ≤ i) && decide (i < (n : Int))
  | _ => false
theorem w_is_index (d : PyData) {n : Nat} (hq : isQ d = false) (h : P (.d (.bool (idxB d n))) st) : WVe noE (semS_is_index [.d d, .d (.int (n : Int))] st) P := by
  unfold semS_is_index sbS_is_index
  rw [W_body]
  cases d with
  | int i =>
    simp
    by_cases c : 0 ≤ i
    · simp [c]; simpa [idxB, c] using h
    · simp [c]; simpa [idxB, c] using h
  | dict kvs =>
    simp [hq]
    have : kitB (tyD (.dict kvs)) "int" = some false := kitB_int _
    rw [this]
    exact h
  | bool b => simp; exact h
  | none => simp; exact h
  | str b => simp; exact h
  | tuple b => simp; exact h
  | list b =>
    simp
    have : kitB (tyD (.list b)) "int" = some false := kitB_int _
    rw [this]
    exact h
theorem stepP_idx {p : Pol} {d : PyData} : (idxB d p.inn.length = true ∧ ∃ i : Nat, d = .int (i : Int) ∧ stepP p d = p.inn[i]? ∧ i < p.inn.length) ∨ (idxB d p.inn.length = false ∧ stepP p d = none) := by
  cases d with
  | int i =>
    by_cases c : 0 ≤ i ∧ i < (p.inn.length : Int)
    · refine .inl ⟨by simp [idxB, c], i.toNat, by congr 1; omega, ?_, by omega⟩
      unfold stepP; simp only; rw [if_pos c]
    · refine .inr ⟨?_, by unfold stepP; simp only; rw [if_neg c]⟩
      unfold idxB
      simp only [Bool.and_eq_false_iff, decide_eq_false_iff_not]
      omega
  | _ => exact .inr ⟨rfl, rfl⟩
theorem atI_inn {p : Pol} {i : Nat} (h : i < p.inn.length) : ∃ q, p.inn[i]? = some q ∧ atI (p.inn.map Pol.pd) (i : Int) = some q.pd := by
  refine ⟨p.inn[i], List.getElem?_eq_getElem h, ?_⟩
  rw [atI_at rfl (by rw [List.length_map]; exact h), List.getElem?_map, List.getElem?_eq_getElem h]; rfl
/-- a path is of such -/
def QPath (d : PyData) : Prop := isQ d = false ∧ ∀ ds, d = .tuple ds → ∀ x ∈ ds, isQ x = false
theorem isT_tuple (d : PyData) : isT "tuple" d = match d with
    | .tuple _ => true
    | _ => false := by cases d <;> simp [isT, tyD]
theorem w_check_part {p : Pol} (d : PyData) (hq : QPath d) (h : ∀ q, pathP p d = some q → P (.d .none) st) (he : pathP p d = none → E ⟨Str.ofString "NoPart", some (Str.ofString "value", d)⟩ st) : WVe E (semS_check_part [.d p.pd, .d d] st) P := by
  unfold semS_check_part sbS_check_part
  rw [W_body]
  refine ⟨rfl, ?_⟩
  have hk := kitB_tuple d
  rw [isT_tuple] at hk
  cases d with
  | tuple ds =>
    refine seq_cut (fun ρ s => ρ = [some (.d p.pd), some (.d (.tuple ds)), none, none, none] ∧ st = s) (by simp) ?_
    rintro ρ s ⟨rfl, rfl⟩
    refine seq_cut (fun ρ s' => ρ = [some (.d p.pd), some (.d (.tuple ds)), some (.d p.pd), none, none] ∧ st = s') (by simp) ?_
    rintro ρ s' ⟨rfl, rfl⟩
    rw [W_sFor]
    simp
    have key : ∀ (r all : List PyData) (q : Pol) (x y : Option Vl), (∀ z ∈ r, isQ z = false) → (∀ o, walkP q r = some o → P (.d .none) st) → (walkP q r = none → E ⟨Str.ofString "NoPart", some (Str.ofString "value", .tuple ds)⟩ st) →
        WSe E (forGo (gNm 3) (sSeq (sAsg (gNm 4) (mV (mCall semP_inner (aCons (mV (mN 2)) aNil)))) (sSeq (sIf (bNot (mTru (mCall semS_is_index (aCons (mV (mN 3)) (aCons (mV (mCal (gLen) (aCons (mV (mN 4)) aNil))) aNil))))) (sRaise1 "NoPart" "value" (aCons (mV (mN 1)) aNil)) sNil) (sAsg (gNm 2) (mV (mBin fIx (mN 4) (mN 3)))))) none all r
          [some (.d p.pd), some (.d (.tuple ds)), some (.d q.pd), x, y] st) (fun _ s => P (.d .none) s) (fun _ _ => False) (fun _ _ => False) P := by
      intro r
      induction r with
      | nil => intro all q x y _ h1 _; rw [forGo_n]; exact h1 q rfl
      | cons d r ih =>
        intro all q x y hz h1 h2
        rw [forGo_c]
        simp
        refine wv_E (w_inner ?_)
        simp
        have e : ((q.inn.map Pol.pd).length : Int) = ((q.inn.length : Nat) : Int) := by rw [List.length_map]
        refine wv_E (w_is_index (n := q.inn.length) d (hz d (List.mem_cons_self ..)) ?_)
        rcases stepP_idx (p := q) (d := d) with ⟨g1, i, rfl, g2, g3⟩ | ⟨g1, g2⟩
        · rw [g1]
          obtain ⟨o, g4, g5⟩ := atI_inn g3
          simp [g5]
          refine ih _ o _ _ (fun z hz' => hz z (List.mem_cons_of_mem _ hz')) (fun o' ho => h1 o' ?_) (fun ho => h2 ?_)
          · show (match stepP q (.int (i : Int)) with | some q => walkP q r | none => none) = _
            rw [g2, g4]; exact ho
          · show (match stepP q (.int (i : Int)) with | some q => walkP q r | none => none) = _
            rw [g2, g4]; exact ho
        · rw [g1]
          simp
          refine h2 ?_
          show (match stepP q d with | some q => walkP q r | none => none) = _
          rw [g2]
    exact key ds _ p _ _ (hq.2 ds rfl) h he
  | _ =>
    simp [hq.1, hk]
    exact he rfl
theorem w_part_at {p : Pol} (d : PyData) (hq : QPath d) (h : ∀ q, pathP p d = some q → P (.d q.pd) st) (he : pathP p d = none → E ⟨Str.ofString "NoPart", some (Str.ofString "value", d)⟩ st) : WVe E (semS_part_at [.d p.pd, .d d] st) P := by
  unfold semS_part_at sbS_part_at
  rw [W_body]
  refine ⟨rfl, ?_⟩
  cases e0 : pathP p d with
  | none =>
    rw [W_sSeq]
    simp
    exact w_check_part d hq (fun q e => by rw [e0] at e; cases e) (fun _ => by simpa using he e0)
  | some q =>
    have hfin := h q e0
    refine seq_cut (fun ρ s => ρ = [some (.d p.pd), some (.d d), none, none] ∧ st = s) ?_ ?_
    · simp
      exact w_check_part d hq (fun q _ => by simp) (fun e => by rw [e0] at e; cases e)
    rintro ρ s ⟨rfl, rfl⟩
    obtain ⟨ds, rfl⟩ : ∃ ds, d = .tuple ds := by cases d <;> first | cases e0 | exact ⟨_, rfl⟩
    refine seq_cut (fun ρ s' => ρ = [some (.d p.pd), some (.d (.tuple ds)), some (.d p.pd), none] ∧ st = s') (by simp) ?_
    rintro ρ s' ⟨rfl, rfl⟩
    refine seq_cut (fun ρ s' => (∃ x, ρ = [some (.d p.pd), some (.d (.tuple ds)), some (.d q.pd), x]) ∧ st = s') ?_ ?_
    · rw [W_sFor]
      simp
      have key : ∀ (r all : List PyData) (o : Pol) (x : Option Vl), walkP o r = some q →
          WSe E (forGo (gNm 3) (sAsg (gNm 2) (mV (mBin fIx (mCall semP_inner (aCons (mV (mN 2)) aNil)) (mN 3)))) none all r [some (.d p.pd), some (.d (.tuple ds)), some (.d o.pd), x] st)
            (fun ρ s' => (∃ x, ρ = [some (.d p.pd), some (.d (.tuple ds)), some (.d q.pd), x]) ∧ st = s') (fun _ _ => False) (fun _ _ => False) P := by
        intro r
        induction r with
        | nil => intro all o x hw; cases hw; rw [forGo_n]; exact ⟨⟨_, rfl⟩, rfl⟩
        | cons d r ih =>
          intro all o x hw
          rw [forGo_c]
          simp
          refine wv_E (w_inner ?_)
          rcases stepP_idx (p := o) (d := d) with ⟨_, i, rfl, g2, g3⟩ | ⟨_, g2⟩
          · obtain ⟨o', g4, g5⟩ := atI_inn g3
            simp [g5]
            refine ih _ o' _ ?_
            have hw : (match stepP o (.int (i : Int)) with | some q => walkP q r | none => none) = some q := hw
            rw [g2, g4] at hw; exact hw
          · exfalso
            have hw : (match stepP o d with | some q => walkP q r | none => none) = some q := hw
            rw [g2] at hw; cases hw
      exact key ds _ p _ e0
    · rintro ρ s' ⟨⟨x, rfl⟩, rfl⟩
      simp
      exact hfin
theorem w_part {p q : Pol} {ds : List PyData} (hw : walkP p ds = some q) (h : P (.d q.pd) st) : WVe E (semS_part [.d p.pd, .d (.tuple ds)] st) P := by
  unfold semS_part sbS_part
  rw [W_body]
  refine ⟨rfl, ?_⟩
  refine seq_cut (fun ρ s' => (∃ x, ρ = [some (.d q.pd), some (.d (.tuple ds)), x]) ∧ st = s') ?_ ?_
  · rw [W_sFor]
    simp
    have key : ∀ (r all : List PyData) (o : Pol) (x : Option Vl), walkP o r = some q →
        WSe E (forGo (gNm 2) (sAsg (gNm 0) (mV (mBin fIx (mCall semP_linner (aCons (mV (mN 0)) aNil)) (mN 2)))) none all r [some (.d o.pd), some (.d (.tuple ds)), x] st)
          (fun ρ s' => (∃ x, ρ = [some (.d q.pd), some (.d (.tuple ds)), x]) ∧ st = s') (fun _ _ => False) (fun _ _ => False) P := by
      intro r
      induction r with
      | nil => intro all o x hw; cases hw; rw [forGo_n]; exact ⟨⟨_, rfl⟩, rfl⟩
      | cons d r ih =>
        intro all o x hw
        rw [forGo_c]
        simp
        refine wv_E (w_linner ?_)
        rcases stepP_idx (p := o) (d := d) with ⟨_, i, rfl, g2, g3⟩ | ⟨_, g2⟩
        · obtain ⟨o', g4, g5⟩ := atI_inn g3
          simp [g5]
          refine ih _ o' _ ?_
          have hw : (match stepP o (.int (i : Int)) with | some q => walkP q r | none => none) = some q := hw
          rw [g2, g4] at hw; exact hw
        · exfalso
          have hw : (match stepP o d with | some q => walkP q r | none => none) = some q := hw
          rw [g2] at hw; cases hw
    exact key ds _ p _ hw
  · rintro ρ s' ⟨⟨x, rfl⟩, rfl⟩
    simp
    exact h
/-! ### parts put in place -/
def Pol.hd : Pol → List PyData
  | .call l g b h => [.str "call", .str l, spD g, spD b, .bool h]
  | .wait n => [.str "wait", .int n]
  | .two k _ _ => [.str k.s]
  | .num k n _ _ => [.str k.s, nuD n]
  | .retry ps _ => [.str "retry", .tuple (ps.map PyData.int)]
  | .tmo n _ => [.str "timeout", nuD n]
theorem pd_hd (p : Pol) : p.pd = .tuple (p.hd ++ p.inn.map Pol.pd) := by cases p <;> rfl
def Pol.putX : Pol → List Nat → PyData → PyData
  | _, [], x => x
  | p, i :: q, x => .tuple (p.hd ++ (p.inn.map Pol.pd).set i (match p.inn[i]? with
    | some r => r.putX q x
    | none => .none))
theorem cutT {ds : List PyData} {a : Nat} (h : a ≤ ds.length) : cutD ds none (some (a : Int)) = ds.take a := by
  unfold cutD
  have : HT.sIx ds.length ds.length (some (a : Int)) = a := by
    unfold HT.sIx
    simp
    rw [if_neg (by omega)]; omega
  rw [this]
  show (ds.drop 0).take (a - 0) = _
  simp
theorem w_with_inner {p : Pol} {v : Vl} {xs : List PyData} (hv : view st v = some (.list xs)) (hl : xs.length = p.inn.length) (h : P (.d (.tuple (p.hd ++ xs))) st) : WVe noE (semS_with_inner [.d p.pd, v] st) P := by
  unfold semS_with_inner sbS_with_inner
  rw [W_body]
  have hg : gLen st [v] = some (.d (.int xs.length)) := by
    cases v with
    | d d => cases hv; rfl
    | c i => rw [gLen_c, hv]; rfl
    | s _ => cases hv
    | o x =>
      show g1 fLen st [.o x] = _
      unfold g1
      simp only [hv]; rfl
  have ht : g1 fTuple st [v] = some (.d (.tuple xs)) := by
    cases v with
    | d d => cases hv; rfl
    | c i => rw [g1_c, hv]; rfl
    | s _ => cases hv
    | o x =>
      unfold g1
      simp only [hv]; rfl
  have h2 : p.inn.length ≤ 2 := by cases p <;> simp [Pol.inn]
  have h3 : p.hd.length ≤ 5 := by cases p <;> simp [Pol.hd]
  rw [pd_hd]
  have e1 : ((p.hd.length : Int) + (p.inn.length : Int) - (xs.length : Int)) = ((p.hd.length : Nat) : Int) := by omega
  simp [hg, ht, e1]
  rw [cutT (by simp), List.take_left' rfl]
  simp [szl]
  exact ⟨by omega, h⟩
def Pol.at : Pol → List Nat → Option Pol
  | p, [] => some p
  | p, i :: q => match p.inn[i]? with
    | some r => r.at q
    | none => none
theorem walk_path : ∀ {q : List Nat} {p r : Pol}, p.at q = some r → walkP p (q.map fun (n : Nat) => .int (n : Int)) = some r
  | [], _, _, h => h
  | i :: q, p, r, h => by
    have h : (match p.inn[i]? with | some r => r.at q | none => none) = some r := h
    have hs : stepP p (.int (i : Int)) = p.inn[i]? := by
      unfold stepP
      simp only
      by_cases c : i < p.inn.length
      · rw [if_pos ⟨by omega, by omega⟩]; rfl
      · rw [if_neg (by omega), List.getElem?_eq_none (by omega)]
    show (match stepP p (.int (i : Int)) with | some q' => walkP q' _ | none => none) = some r
    rw [hs]
    cases q1 : p.inn[i]? with
    | none => rw [q1] at h; cases h
    | some o => rw [q1] at h; exact walk_path h
theorem at_depth : ∀ {q : List Nat} {p r : Pol}, p.at q = some r → q.length + r.depth ≤ p.depth
  | [], _, _, h => by cases h; simp
  | i :: q, p, r, h => by
    have h : (match p.inn[i]? with | some r => r.at q | none => none) = some r := h
    cases q1 : p.inn[i]? with
    | none => rw [q1] at h; cases h
    | some o =>
      rw [q1] at h
      have h2 := at_depth h
      have h3 : o ∈ p.inn := List.mem_of_getElem? q1
      have h4 : o.depth + 1 ≤ p.depth := by
        cases p <;> simp [Pol.inn] at h3
        · rcases h3 with rfl | rfl <;> simp [Pol.depth] <;> omega
        · rcases h3 with rfl | rfl <;> simp [Pol.depth] <;> omega
        · subst h3; simp [Pol.depth]; omega
        · subst h3; simp [Pol.depth]; omega
      rw [List.length_cons]; omega
theorem at_small : ∀ {q : List Nat} {p r : Pol}, p.at q = some r → ∀ i ∈ q, i < 2
  | [], _, _, _, i, hi => by cases hi
  | j :: q, p, r, h, i, hi => by
    have h : (match p.inn[j]? with | some r => r.at q | none => none) = some r := h
    cases q1 : p.inn[j]? with
    | none => rw [q1] at h; cases h
    | some o =>
      rw [q1] at h
      rcases List.mem_cons.mp hi with rfl | hi
      · have := (List.getElem?_eq_some_iff.mp q1).1
        have h2 : p.inn.length ≤ 2 := by cases p <;> simp [Pol.inn]
        omega
      · exact at_small h i hi
theorem paD_eq (q : List Nat) (hq : ∀ i ∈ q, i < 1000) : gEq (paD q) (.tuple []) = some q.isEmpty := by
  have := shp_pol (ds := q.map fun (n : Nat) => .int (n : Int)) fun d hd => by
    obtain ⟨n, hn, rfl⟩ := List.mem_map.mp hd
    have := hq n hn
    exact ⟨log_small (k := 40) (by omega) (by decide), Nat.zero_le _⟩
  unfold paD
  rw [this]
  cases q <;> rfl
theorem cutD1 (d : PyData) (ds : List PyData) : cutD (d :: ds) (some 1) none = ds := by
  unfold cutD
  have : HT.sIx (d :: ds).length 0 (some 1) = 1 := by
    rw [show (1 : Int) = ((1 : Nat) : Int) from rfl, HT.sIx_nat]
    simp
  rw [this]
  show ((d :: ds).drop 1).take ((d :: ds).length - 1) = ds
  simp
theorem w_put_at : ∀ (f : Nat) {q : List Nat} {p r : Pol} {x : PyData} {st : Sto} {P : Rv → Sto → Prop}, q.length < f → p.at q = some r → (∀ t, P (.d (p.putX q x)) (st ++ t)) → WVe noE (semS_put_at f [.d p.pd, .d (paD q), .d x] st) P
  | 0, _, _, _, _, _, _, h, _, _ => absurd h (Nat.not_lt_zero _)
  | f + 1, q, p, r, x, st, P, hf, ha, h => by
    show WVe noE (bodyF 4 3 (sbS_put_at (semS_put_at f)) _ _) P
    unfold sbS_put_at
    rw [W_body]
    have e := paD_eq q fun i hi => Nat.lt_of_lt_of_le (at_small ha i hi) (by decide)
    cases q with
    | nil =>
      simp [e]
      have := h []
      simpa [Pol.putX] using this
    | cons i q =>
      have ha2 : (match p.inn[i]? with | some r => r.at q | none => none) = some r := ha
      cases q1 : p.inn[i]? with
      | none => rw [q1] at ha2; cases ha2
      | some o =>
        rw [q1] at ha2
        have hi : i < p.inn.length := (List.getElem?_eq_some_iff.mp q1).1
        have hl : p.inn.length ≤ 2 := by cases p <;> simp [Pol.inn]
        obtain ⟨o', e1, e2⟩ := atI_inn hi
        rw [q1] at e1; cases e1
        have e3 : ixN p.inn.length (i : Int) = some i := by
          unfold ixN
          rw [if_pos (by omega), if_pos (by omega)]; rfl
        have hdo := at_depth ha2
        simp [e]
        refine w_inner ?_
        simp [paD, e2, cutD1]
        refine w_put_at f (q := q) (r := r) (by simp at hf; omega) ha2 fun t => ?_
        rw [List.append_assoc]
        simp [e3]
        refine w_with_inner (xs := (p.inn.map Pol.pd).set i (o.putX q x)) ?_ (by simp) ?_
        · simp
        · have : p.putX (i :: q) x = .tuple (p.hd ++ (p.inn.map Pol.pd).set i (o.putX q x)) := by
            show PyData.tuple (p.hd ++ (p.inn.map Pol.pd).set i (match p.inn[i]? with | some r => r.putX q x | none => .none)) = _
            rw [q1]
          rw [← this]
          simp
          exact h _
end
end Cp
/-! Ps3: is_policy of policies. -/
namespace Cp
open PySem L2
section
variable {st : Sto} {P : Rv → Sto → Prop} {E : Er → Sto → Prop} {ρ : En} {ma : Ev} {PE : Rv → Sto → Prop}
@[simp] theorem W_mPop : WVe E (mPop ma ρ st) PE = WVe E (ma ρ st) fun r s => (match frz r with
    | .c k => (match s[k]? with
      | some (.l xs) => (match xs[xs.length - 1]? with
        | some d => PE (.d d) (s.set k (.l xs.dropLast))
        | none => False)
      | _ => False)
    | _ => False) := by
  unfold mPop; rw [WV_bind, W_mV]
  congr 1; funext r s
  generalize frz r = v
  cases v with
  | c k =>
    simp only [lstAt_c]
    cases s[k]? with
    | none => rfl
    | some c =>
      cases c with
      | m _ => rfl
      | l xs =>
        simp only
        cases xs[xs.length - 1]? <;> rfl
  | _ => rfl
def seenD (xs : List Str) : List (PyData × PyData) := xs.map fun x => (.str x, .bool true)
theorem seen_flat (xs : List Str) : flK (seenD xs) = true := by
  unfold flK seenD
  rw [List.all_map]
  exact List.all_eq_true.mpr fun _ _ => rfl
theorem keyE_str (a b : Str) : keyE (.str a) (.str b) = decide (a = b) := by
  unfold keyE keyN
  by_cases h : a = b
  · subst h; simp
  · simp [h]
theorem seen_look (l : Str) : ∀ xs : List Str, l ∉ xs → lookD (seenD xs) (.str l) = none
  | [], _ => rfl
  | x :: xs, h => by
    show (if keyE (.str x) (.str l) = true then _ else lookD (seenD xs) (.str l)) = none
    rw [keyE_str, if_neg (by simpa using fun e => h (by rw [e]; exact List.mem_cons_self ..))]
    exact seen_look l xs fun hx => h (List.mem_cons_of_mem _ hx)
theorem seen_put (l : Str) (xs : List Str) (h : l ∉ xs) : putD (seenD xs) (.str l) (.bool true) = seenD (xs ++ [l]) := by
  unfold putD
  rw [if_neg]
  · unfold seenD; rw [List.map_append]; rfl
  · rw [List.any_eq_true]
    rintro ⟨p, hp, e⟩
    unfold seenD at hp
    obtain ⟨x, hx, rfl⟩ := List.mem_map.mp hp
    rw [keyE_str] at e
    exact h (by rw [← of_decide_eq_true e]; exact hx)
theorem seen_ok (l : Str) (xs : List Str) : okK (seenD xs) (.str l) = true := by
  unfold okK
  rw [seen_flat]; rfl
theorem seen_len (xs : List Str) : (seenD xs).length = xs.length := List.length_map _
/-- a policy that is one -/
structure Pol.Valid (p : Pol) : Prop where
  nd : p.All Pol.Node
  sz : p.size ≤ 40
  dp : p.depth ≤ 20
  lb : p.labs.Nodup
abbrev Stk := List (Pol × Nat)
def stkS (s : Stk) : Nat := (s.map fun x => x.1.size).sum
theorem stkS_app (a b : Stk) : stkS (a ++ b) = stkS a + stkS b := by unfold stkS; rw [List.map_append, List.sum_append]
def innS (p : Pol) (d : Nat) : Stk := p.inn.map fun q => (q, d)
theorem inn_size (p : Pol) (d : Nat) : stkS (innS p d) + 1 = p.size := by
  cases p <;> simp [innS, stkS, Pol.inn, Pol.size] <;> omega
theorem inn_labs (p : Pol) (d : Nat) (h : p.kind ≠ "call") : (innS p d).flatMap (fun x => x.1.labs) = p.labs := by
  cases p <;> simp [innS, Pol.inn, Pol.labs, Pol.kind] at h ⊢
theorem inn_dp {p q : Pol} (h : q ∈ p.inn) : q.depth + 1 ≤ p.depth := by
  cases p <;> simp [Pol.inn] at h
  · rcases h with rfl | rfl <;> simp [Pol.depth] <;> omega
  · rcases h with rfl | rfl <;> simp [Pol.depth] <;> omega
  · subst h; simp [Pol.depth]; omega
  · subst h; simp [Pol.depth]; omega
theorem dp_pos (p : Pol) : 1 ≤ p.depth := by cases p <;> simp [Pol.depth] <;> omega
@[simp] theorem tq2 (s : Sto) (x y : Cl) (t : Sto) : (s ++ (x :: y :: t)).take (s.length + 2) = s ++ [x, y] := by
  rw [List.take_append, List.take_of_length_le (by omega), Nat.add_sub_cancel_left]; rfl
end
end Cp
/-! Ps4: parts put in place, parts left out. -/
namespace Cp
open PySem L2
section
variable {st : Sto} {P : Rv → Sto → Prop} {E : Er → Sto → Prop}
theorem w_lput : ∀ (f : Nat) {q : List Nat} {p r : Pol} {x : PyData} {st : Sto} {P : Rv → Sto → Prop}, q.length < f → p.at q = some r → (∀ t, P (.d (p.putX q x)) (st ++ t)) → WVe noE (semS_lput f [.d p.pd, .d (paD q), .d x] st) P
  | 0, _, _, _, _, _, _, h, _, _ => absurd h (Nat.not_lt_zero _)
  | f + 1, q, p, r, x, st, P, hf, ha, h => by
    show WVe noE (bodyF 4 3 (sbS_lput (semS_lput f)) _ _) P
    unfold sbS_lput
    rw [W_body]
    have e := paD_eq q fun i hi => Nat.lt_of_lt_of_le (at_small ha i hi) (by decide)
    cases q with
    | nil =>
      simp [e]
      have := h []
      simpa [Pol.putX] using this
    | cons i q =>
      have ha2 : (match p.inn[i]? with | some r => r.at q | none => none) = some r := ha
      cases q1 : p.inn[i]? with
      | none => rw [q1] at ha2; cases ha2
      | some o =>
        rw [q1] at ha2
        have hi : i < p.inn.length := (List.getElem?_eq_some_iff.mp q1).1
        have hl : p.inn.length ≤ 2 := by cases p <;> simp [Pol.inn]
        obtain ⟨o', e1, e2⟩ := atI_inn hi
        rw [q1] at e1; cases e1
        have e3 : ixN p.inn.length (i : Int) = some i := by
          unfold ixN
          rw [if_pos (by omega), if_pos (by omega)]; rfl
        simp [e]
        refine w_linner ?_
        simp [paD, e2, cutD1]
        refine w_lput f (q := q) (r := r) (by simp at hf; omega) ha2 fun t => ?_
        rw [List.append_assoc]
        have h3 : p.hd.length ≤ 5 := by cases p <;> simp [Pol.hd]
        have this : p.putX (i :: q) x = .tuple (p.hd ++ (p.inn.map Pol.pd).set i (o.putX q x)) := by
          show PyData.tuple (p.hd ++ (p.inn.map Pol.pd).set i (match p.inn[i]? with | some r => r.putX q x | none => .none)) = _
          rw [q1]
        have e4 : ((p.hd.length : Int) + (p.inn.length : Int) - (p.inn.length : Int)) = ((p.hd.length : Nat) : Int) := by omega
        rw [pd_hd]
        simp [e3, e4]
        rw [cutT (by simp), List.take_left' rfl]
        simp [szl]
        rw [← this]
        exact ⟨by omega, h _⟩
/-- another policy in the place of a part -/
def Pol.put : Pol → List Nat → Pol → Pol
  | _, [], x => x
  | .two k a b, 0 :: q, x => .two k (a.put q x) b
  | .two k a b, 1 :: q, x => .two k a (b.put q x)
  | .num k n a b, 0 :: q, x => .num k n (a.put q x) b
  | .num k n a b, 1 :: q, x => .num k n a (b.put q x)
  | .retry ps a, 0 :: q, x => .retry ps (a.put q x)
  | .tmo n a, 0 :: q, x => .tmo n (a.put q x)
  | p, _ :: _, _ => p
def Pol.lv : Pol → Bool
  | .num _ n _ _ => n.isSome
  | .tmo n _ => n.isSome
  | .retry ps _ => !ps.isEmpty
  | _ => false
theorem at_node : ∀ (q : List Nat) {p r : Pol}, p.at q = some r → p.All Pol.Node → r.All Pol.Node
  | [], p, r, h, hp => by cases h; exact hp
  | i :: q, p, r, h, hp => by
    have h : (match p.inn[i]? with | some r => r.at q | none => none) = some r := h
    cases q1 : p.inn[i]? with
    | none => rw [q1] at h; cases h
    | some o => rw [q1] at h; exact at_node q h (hp.inn (List.mem_of_getElem? q1))
theorem path_at {p r : Pol} {q : List Nat} (h : p.at q = some r) : pathP p (paD q) = some r := walk_path h
theorem qpath_paD (q : List Nat) : QPath (paD q) := ⟨rfl, fun ds e x hx => by
  unfold paD at e
  cases e
  obtain ⟨n, _, rfl⟩ := List.mem_map.mp hx
  rfl⟩
end
end Cp
/-! Ps5: parts left out. -/
namespace Cp
open PySem L2
section
variable {st : Sto} {P : Rv → Sto → Prop} {E : Er → Sto → Prop}
def pl (p : Pol) (q : List Nat) : Bool := match p.at q with
  | some r => r.lv
  | none => false
theorem paths_at : ∀ (p : Pol), ∀ q ∈ p.paths, ∃ r, p.at q = some r
  | .call _ _ _ _, q, h => by simp [Pol.paths] at h; subst h; exact ⟨_, rfl⟩
  | .wait _, q, h => by simp [Pol.paths] at h; subst h; exact ⟨_, rfl⟩
  | .two _ a b, q, h => by
    simp [Pol.paths] at h
    rcases h with rfl | ⟨r, hr, rfl⟩ | ⟨r, hr, rfl⟩
    · exact ⟨_, rfl⟩
    · exact paths_at a r hr
    · exact paths_at b r hr
  | .num _ _ a b, q, h => by
    simp [Pol.paths] at h
    rcases h with rfl | ⟨r, hr, rfl⟩ | ⟨r, hr, rfl⟩
    · exact ⟨_, rfl⟩
    · exact paths_at a r hr
    · exact paths_at b r hr
  | .retry _ a, q, h => by
    simp [Pol.paths] at h
    rcases h with rfl | ⟨r, hr, rfl⟩
    · exact ⟨_, rfl⟩
    · exact paths_at a r hr
  | .tmo _ a, q, h => by
    simp [Pol.paths] at h
    rcases h with rfl | ⟨r, hr, rfl⟩
    · exact ⟨_, rfl⟩
    · exact paths_at a r hr
theorem at_paths : ∀ (q : List Nat) {p r : Pol}, p.at q = some r → q ∈ p.paths
  | [], p, r, h => by cases p <;> simp [Pol.paths]
  | i :: q, p, r, h => by
    have h : (match p.inn[i]? with | some r => r.at q | none => none) = some r := h
    cases p with
    | call l g b hh => simp [Pol.inn] at h
    | wait n => simp [Pol.inn] at h
    | two k a b =>
      match i, h with
      | 0, h => simp [Pol.inn] at h; simp [Pol.paths]; exact at_paths q h
      | 1, h => simp [Pol.inn] at h; simp [Pol.paths]; exact at_paths q h
      | i + 2, h => simp [Pol.inn] at h
    | num k n a b =>
      match i, h with
      | 0, h => simp [Pol.inn] at h; simp [Pol.paths]; exact at_paths q h
      | 1, h => simp [Pol.inn] at h; simp [Pol.paths]; exact at_paths q h
      | i + 2, h => simp [Pol.inn] at h
    | retry ps a =>
      match i, h with
      | 0, h => simp [Pol.inn] at h; simp [Pol.paths]; exact at_paths q h
      | i + 1, h => simp [Pol.inn] at h
    | tmo n a =>
      match i, h with
      | 0, h => simp [Pol.inn] at h; simp [Pol.paths]; exact at_paths q h
      | i + 1, h => simp [Pol.inn] at h
end
end Cp
/-! Ps6: drawn policies are policies; what paths look like. -/
namespace Cp
open PySem L2
def isLabB (x : Str) : Bool := decide (1 ≤ x.length) && (decide (x.length ≤ 8) && x.cps.toList.all fun c => SIG.cps.toList.contains c)
theorem isLabB_ok {x : Str} (h : isLabB x = true) : IsLab x := by
  unfold isLabB at h
  simp only [Bool.and_eq_true, decide_eq_true_eq, List.all_eq_true] at h
  exact ⟨h.1, h.2.1, fun c hc => by have := h.2.2 c hc; simpa using this⟩
def stems : List Str := [Str.ofString "", Str.ofString "c", Str.ofString "call"]
theorem labs_all : (stems.all fun s => (List.range 40).all fun k => isLabB (labK s (k + 1))) = true := by decide +kernel
theorem labs_nd : (stems.all fun s => decide (((List.range 40).map fun k => labK s (k + 1)).Nodup)) = true := by decide +kernel
theorem lab_ok {stem : Str} (hs : stem ∈ stems) {k : Nat} (hk : k < 40) : IsLab (labK stem (k + 1)) :=
  isLabB_ok (List.all_eq_true.mp (List.all_eq_true.mp labs_all stem hs) k (List.mem_range.mpr hk))
theorem labs_le : ∀ p : Pol, p.labs.length ≤ p.size
  | .call _ _ _ _ => Nat.le_refl _
  | .wait _ => Nat.zero_le _
  | .two _ a b => by have := labs_le a; have := labs_le b; simp [Pol.labs, Pol.size]; omega
  | .num _ _ a b => by have := labs_le a; have := labs_le b; simp [Pol.labs, Pol.size]; omega
  | .retry _ a => by have := labs_le a; simp [Pol.labs, Pol.size]; omega
  | .tmo _ a => by have := labs_le a; simp [Pol.labs, Pol.size]; omega
theorem drawn_node {L : Int} (hL : L < 1000000000) : ∀ {p : Pol}, p.Bnd L → (∀ l ∈ p.labs, IsLab l) → p.All Pol.Node
  | .call l g b h, hb, hl => by
    have sp : ∀ s : Span, spB L s → SpOk s := fun s hs => by
      cases s with
      | none => trivial
      | some s => exact ⟨hs.1, hs.2.1, by have := hs.2.2; omega⟩
    refine ⟨hl l (by simp [Pol.labs]), sp g hb.1, sp b hb.2.1, ?_⟩
    cases g with
    | some g => exact .inr (.inl (by simp))
    | none => exact .inr (.inr (hb.2.2 rfl))
  | .wait n, hb, _ => ⟨hb.1, by have := hb.2; omega⟩
  | .two k a b, hb, hl => ⟨trivial, drawn_node hL hb.1 fun l h => hl l (by simp [Pol.labs, h]), drawn_node hL hb.2 fun l h => hl l (by simp [Pol.labs, h])⟩
  | .num k n a b, hb, hl => ⟨(by cases n with
    | none => trivial
    | some n => exact ⟨hb.1.1, by have := hb.1.2; omega⟩), drawn_node hL hb.2.1 fun l h => hl l (by simp [Pol.labs, h]), drawn_node hL hb.2.2 fun l h => hl l (by simp [Pol.labs, h])⟩
  | .retry ps a, hb, hl => ⟨⟨by have := hb.1.1; omega, fun x hx => by have := hb.1.2 x hx; omega⟩, drawn_node hL hb.2 fun l h => hl l (by simpa [Pol.labs] using h)⟩
  | .tmo n a, hb, hl => ⟨(by cases n with
    | none => trivial
    | some n => exact ⟨hb.1.1, by have := hb.1.2; omega⟩), drawn_node hL hb.2 fun l h => hl l (by simpa [Pol.labs] using h)⟩
theorem valid_drawn {L : Int} {p : Pol} {stem : Str} (hL : L < 1000000000) (hb : p.Bnd L) (hs : p.size ≤ 40) (hd : p.depth ≤ 20) (hl : p.Lab stem 0) (hst : stem ∈ stems) : p.Valid := by
  have hn := labs_le p
  have hl : p.labs = (List.range p.labs.length).map fun x => labK stem (0 + x + 1) := hl
  refine ⟨drawn_node hL hb fun l h => ?_, hs, hd, ?_⟩
  · rw [hl] at h
    obtain ⟨k, hk, rfl⟩ := List.mem_map.mp h
    rw [Nat.zero_add]
    exact lab_ok hst (by have := List.mem_range.mp hk; omega)
  · have h40 : ((List.range 40).map fun k => labK stem (k + 1)).Nodup := of_decide_eq_true (List.all_eq_true.mp labs_nd stem hst)
    rw [hl]
    have e : (fun x => labK stem (0 + x + 1)) = fun k => labK stem (k + 1) := by funext x; rw [Nat.zero_add]
    rw [e]
    refine h40.sublist (List.Sublist.map _ ?_)
    have : List.range 40 = List.range p.labs.length ++ (List.range (40 - p.labs.length)).map (p.labs.length + ·) := by
      rw [← List.range_add]; congr 1; omega
    rw [this]
    exact List.sublist_append_left _ _
/-! ### paths as texts -/
def dgL (l : List Nat) : List Nat := l.filter fun c => decide (c = 48) || decide (c = 49)
def dg (x : Str) : List Nat := dgL x.cps.toList
end Cp
/-! Ps7: policies and paths shown. -/
namespace Cp
open PySem L2
theorem siz_small {i : Int} (h : 0 ≤ i ∧ i ≤ 1000000000) : siz (.int i) ≤ 32 := by
  show i.natAbs.log2 + 2 ≤ 32
  have h2 : i.natAbs < 2 ^ 30 := by omega
  by_cases hz : i.natAbs = 0
  · rw [hz]; decide
  · have := (Nat.log2_lt hz).mpr h2; omega
theorem siz_nu {n : Option Int} (h : NuOk n) : siz (nuD n) ≤ 32 := by
  cases n with
  | none => exact (by decide : (5 : Nat) ≤ 32)
  | some n => exact siz_small h
theorem siz_sp {g : Span} (h : SpOk g) : siz (spD g) ≤ 80 := by
  cases g with
  | none => exact (by decide : (5 : Nat) ≤ 80)
  | some p =>
    have h1 := siz_small (i := p.1) ⟨h.1, by have := h.2; omega⟩
    have h2 := siz_small (i := p.2) ⟨by have := h.1; have := h.2; omega, h.2.2⟩
    show siz (.int p.1) + 2 + (siz (.int p.2) + 2 + 0) + 3 ≤ 80
    omega
theorem siz_kind (k : String) (h : (Str.ofString k).length ≤ 10) : siz (.str (Str.ofString k)) ≤ 102 := by
  show 10 * (Str.ofString k).length + 2 ≤ 102; omega
theorem Pol.siz_le : ∀ {p : Pol}, p.All Pol.Node → siz p.pd ≤ p.size * 500
  | .call l g b h, hn => by
    obtain ⟨h1, h2, h3, h4⟩ := hn
    have a1 := siz_kind "call" (by decide)
    have a2 := siz_sp h2
    have a3 := siz_sp h3
    have a4 := h1.hi
    show siz (.str (Str.ofString "call")) + 2 + ((10 * l.length + 2) + 2 + (siz (spD g) + 2 + (siz (spD b) + 2 + (5 + 2 + 0)))) + 3 ≤ 1 * 500
    omega
  | .wait n, hn => by
    have a1 := siz_kind "wait" (by decide)
    have a2 := siz_small hn
    show siz (.str (Str.ofString "wait")) + 2 + (siz (.int n) + 2 + 0) + 3 ≤ 1 * 500
    omega
  | .two k a b, hn => by
    have a1 : siz (.str (Str.ofString k.s)) ≤ 102 := siz_kind _ (by cases k <;> decide)
    have a2 := Pol.siz_le hn.2.1
    have a3 := Pol.siz_le hn.2.2
    show siz (.str (Str.ofString k.s)) + 2 + (siz a.pd + 2 + (siz b.pd + 2 + 0)) + 3 ≤ (1 + a.size + b.size) * 500
    omega
  | .num k n a b, hn => by
    have a1 : siz (.str (Str.ofString k.s)) ≤ 102 := siz_kind _ (by cases k <;> decide)
    have a2 := Pol.siz_le hn.2.1
    have a3 := Pol.siz_le hn.2.2
    have a4 := siz_nu hn.1
    show siz (.str (Str.ofString k.s)) + 2 + (siz (nuD n) + 2 + (siz a.pd + 2 + (siz b.pd + 2 + 0))) + 3 ≤ (1 + a.size + b.size) * 500
    omega
  | .retry ps a, hn => by
    have a1 := siz_kind "retry" (by decide)
    have a2 := Pol.siz_le hn.2
    have a3 := sizAll_le (B := 32) (ds := ps.map PyData.int) fun d hd => by
      obtain ⟨x, hx, rfl⟩ := List.mem_map.mp hd
      exact siz_small (hn.1.2 x hx)
    rw [List.length_map] at a3
    have a4 := hn.1.1
    show siz (.str (Str.ofString "retry")) + 2 + ((sizAll (ps.map PyData.int) + 3) + 2 + (siz a.pd + 2 + 0)) + 3 ≤ (1 + a.size) * 500
    omega
  | .tmo n a, hn => by
    have a1 := siz_kind "timeout" (by decide)
    have a2 := Pol.siz_le hn.2
    have a4 := siz_nu hn.1
    show siz (.str (Str.ofString "timeout")) + 2 + (siz (nuD n) + 2 + (siz a.pd + 2 + 0)) + 3 ≤ (1 + a.size) * 500
    omega
theorem gIn_strs (x : Str) (xs : List Str) : gIn false (.str x) (.list (xs.map PyData.str)) = some (decide (x ∈ xs)) := by
  unfold gIn
  simp only [itemsD]
  have : (xs.map PyData.str).all flatD = true := by rw [List.all_map]; exact List.all_eq_true.mpr fun _ _ => rfl
  rw [this]
  simp only [flatD, Bool.true_and, if_true, Bool.false_eq_true, if_false]
  congr 1
  rw [List.any_map, Bool.eq_iff_iff, List.any_eq_true, decide_eq_true_eq]
  exact ⟨fun ⟨y, hy, e⟩ => by
    have e : (y == x) = true := e
    rw [← (by simpa using e : y = x)]; exact hy, fun h => ⟨x, h, by show (x == x) = true; simp⟩⟩
end Cp
/-! Ps8: labels, numbers, forms. -/
namespace Cp
open PySem L2
/-! ### texts sorted -/
/-! ### parts -/
def Pol.sub (p : Pol) (q : List Nat) : Pol := (p.at q).getD (.wait 0)
def sndD : PyData → PyData
  | .tuple (_ :: x :: _) => x
  | _ => .none
section
variable {st : Sto} {P : Rv → Sto → Prop} {E : Er → Sto → Prop}
def isNumD : PyData → Bool
  | .tuple (.str k :: _) => decide (k ∈ ["wait", "retry", "fallback", "timeout", "race", "hedge"].map Str.ofString)
  | _ => false
/-- the paths of the parts that have a number, with it -/
def numL (p : Pol) : List PyData := (p.paths.filter fun q => isNumD (p.sub q).pd).map fun q => .tuple [paD q, sndD (p.sub q).pd]
/-! ### calls -/
def Pol.cls : Pol → List (Str × PyData)
  | .call l g b h => [(l, (Pol.call l g b h).pd)]
  | .wait _ => []
  | .two _ a b => a.cls ++ b.cls
  | .num _ _ a b => a.cls ++ b.cls
  | .retry _ a => a.cls
  | .tmo _ a => a.cls
/-! ### forms -/
def Two.t (k : Two) : PyData := .str (Str.ofString k.s)
def Num.t (k : Num) : PyData := .str (Str.ofString k.s)
def Pol.bare : Pol → PyData
  | .call l g b h => .list [.str (Str.ofString "call"), .str l, spD g, spD b, .bool h]
  | .wait _ => .list [.str (Str.ofString "wait")]
  | .two k a b => .list [k.t, a.bare, b.bare]
  | .num k _ a b => .list [k.t, a.bare, b.bare]
  | .retry _ a => .list [.str (Str.ofString "retry"), a.bare]
  | .tmo _ a => .list [.str (Str.ofString "timeout"), a.bare]
theorem eqvTup (xs ys : List PyData) : PyData.eqv (.tuple xs) (.tuple ys) = PyData.eqvAll xs ys := by rw [PyData.eqv]
end
end Cp
/-! Ps9: is_policy where labels may come twice; numbers put and put back. -/
namespace Cp
open PySem L2
theorem at_ind {C : List Nat → Pol → Pol → Prop} (h0 : ∀ p, C [] p p)
    (t0 : ∀ k a b q r, a.at q = some r → C q a r → C (0 :: q) (.two k a b) r) (t1 : ∀ k a b q r, b.at q = some r → C q b r → C (1 :: q) (.two k a b) r)
    (n0 : ∀ k n a b q r, a.at q = some r → C q a r → C (0 :: q) (.num k n a b) r) (n1 : ∀ k n a b q r, b.at q = some r → C q b r → C (1 :: q) (.num k n a b) r)
    (r0 : ∀ ps a q r, a.at q = some r → C q a r → C (0 :: q) (.retry ps a) r) (m0 : ∀ n a q r, a.at q = some r → C q a r → C (0 :: q) (.tmo n a) r) :
    ∀ (q : List Nat) {p r : Pol}, p.at q = some r → C q p r
  | [], p, r, h => by cases h; exact h0 p
  | i :: q, p, r, h => by
    have h : (match p.inn[i]? with | some r => r.at q | none => none) = some r := h
    cases p with
    | call l g b hh => simp [Pol.inn] at h
    | wait n => simp [Pol.inn] at h
    | two k a b =>
      match i, h with
      | 0, h => simp [Pol.inn] at h; exact t0 k a b q r h (at_ind h0 t0 t1 n0 n1 r0 m0 q h)
      | 1, h => simp [Pol.inn] at h; exact t1 k a b q r h (at_ind h0 t0 t1 n0 n1 r0 m0 q h)
      | i + 2, h => simp [Pol.inn] at h
    | num k n a b =>
      match i, h with
      | 0, h => simp [Pol.inn] at h; exact n0 k n a b q r h (at_ind h0 t0 t1 n0 n1 r0 m0 q h)
      | 1, h => simp [Pol.inn] at h; exact n1 k n a b q r h (at_ind h0 t0 t1 n0 n1 r0 m0 q h)
      | i + 2, h => simp [Pol.inn] at h
    | retry ps a =>
      match i, h with
      | 0, h => simp [Pol.inn] at h; exact r0 ps a q r h (at_ind h0 t0 t1 n0 n1 r0 m0 q h)
      | i + 1, h => simp [Pol.inn] at h
    | tmo n a =>
      match i, h with
      | 0, h => simp [Pol.inn] at h; exact m0 n a q r h (at_ind h0 t0 t1 n0 n1 r0 m0 q h)
      | i + 1, h => simp [Pol.inn] at h
end Cp
/-! Pd: data of any kind, the empty dict as a leaf: what is shown of it. -/
namespace Cp
open PySem L2
mutual
def okE : PyData → Prop
  | .none | .bool _ => True
  | .int i => i.natAbs.log2 < 1920
  | .str x => ∀ c ∈ x.cps.toList, c < 0x110000
  | .list xs | .tuple xs => okEs xs
  | .dict kvs => kvs = []
def okEs : List PyData → Prop
  | [] => True
  | x :: xs => okE x ∧ okEs xs
end
mutual
theorem okE_of : ∀ {d : PyData}, okS d → okE d
  | .none, h => h
  | .bool _, h => h
  | .int _, h => h
  | .str _, h => h
  | .list _, h => okEs_of h
  | .tuple _, h => okEs_of h
  | .dict _, h => False.elim h
theorem okEs_of : ∀ {ds : List PyData}, okSs ds → okEs ds
  | [], _ => trivial
  | _ :: _, h => ⟨okE_of h.1, okEs_of h.2⟩
end
theorem okEs_mem : ∀ {ds : List PyData}, okEs ds → ∀ d ∈ ds, okE d
  | _ :: _, h, d, hd => by
    rcases List.mem_cons.mp hd with rfl | hd
    · exact h.1
    · exact okEs_mem h.2 d hd
theorem okEs_all : ∀ {ds : List PyData}, (∀ d ∈ ds, okE d) → okEs ds
  | [], _ => trivial
  | d :: ds, h => ⟨h d (List.mem_cons_self ..), okEs_all fun x hx => h x (List.mem_cons_of_mem _ hx)⟩
mutual
theorem showE_ok : ∀ {d : PyData}, okE d → d.showable = true ∧ noLst d = true ∧ d.shown.length ≤ siz d
  | .none, _ => ⟨rfl, rfl, by decide⟩
  | .bool b, _ => ⟨rfl, rfl, by cases b <;> decide⟩
  | .int i, h => let z := shown_ok (d := .int i) h; ⟨z.1, rfl, z.2.2⟩
  | .str x, h => let z := shown_ok (d := .str x) h; ⟨z.1, rfl, z.2.2⟩
  | .list xs, h => by
    obtain ⟨h1, h2, h3⟩ := showE_oks h
    have := text_len (PyData.shownAll xs)
    exact ⟨h1, h2, show (PySem.listText (PyData.shownAll xs)).length ≤ sizAll xs + 3 by omega⟩
  | .tuple xs, h => by
    obtain ⟨h1, h2, h3⟩ := showE_oks h
    have g := join_len (PyData.shownAll xs)
    have a1 : (("(" : String) : Str).length = 1 := rfl
    have a2 : ((if (PyData.shownAll xs).length == 1 then ",)" else ")" : String) : Str).length ≤ 2 := by split <;> decide
    refine ⟨h1, h2, ?_⟩
    have e : (PyData.tuple xs).shown.length = (("(" : Str) ++ Str.join ", " (PyData.shownAll xs) ++ (if (PyData.shownAll xs).length == 1 then ",)" else ")" : String)).length := rfl
    rw [e, strLen_append, strLen_append]
    show _ ≤ sizAll xs + 3
    omega
  | .dict kvs, h => by
    have h : kvs = [] := h
    subst h
    exact ⟨rfl, rfl, by decide⟩
theorem showE_oks : ∀ {ds : List PyData}, okEs ds → PyData.showableAll ds = true ∧ noLstA ds = true ∧ ((PyData.shownAll ds).map fun t => t.length + 2).sum ≤ sizAll ds
  | [], _ => ⟨rfl, rfl, Nat.le_refl _⟩
  | d :: ds, h => by
    obtain ⟨h1, h2, h3⟩ := showE_ok h.1
    obtain ⟨k1, k2, k3⟩ := showE_oks h.2
    refine ⟨?_, ?_, ?_⟩
    · show (d.showable && PyData.showableAll ds) = true; rw [h1, k1]; rfl
    · show (noLst d && noLstA ds) = true; rw [h2, k2]; rfl
    · have : ((PyData.shownAll (d :: ds)).map fun t => t.length + 2).sum = d.shown.length + 2 + ((PyData.shownAll ds).map fun t => t.length + 2).sum := by
        show ((d.shown :: PyData.shownAll ds).map fun t => t.length + 2).sum = _
        rw [List.map_cons, List.sum_cons]
      rw [this]
      show _ ≤ siz d + 2 + sizAll ds
      omega
end
/-- such a value is shown -/
theorem fReprE {d : PyData} (h : okE d) (hs : siz d ≤ sizeLine) (hd : d.depth ≤ 60) : fRepr d = some (.d (.str d.shown)) := by
  obtain ⟨h1, h2, h3⟩ := showE_ok h
  have : shw d = true := by
    unfold shw
    rw [h1, h2, decide_eq_true (Nat.le_trans h3 hs), decide_eq_true hd, Bool.or_true]; rfl
  unfold fRepr
  rw [if_pos this]
mutual
theorem showE_sgn : ∀ {d : PyData}, okE d → Sgn d.shown
  | .none, _ => Sgn.lit _
  | .bool b, _ => by cases b <;> exact Sgn.lit _
  | .int i, _ => Sgn.lit _
  | .str x, h => shown_sgn (d := .str x) h
  | .list xs, h => text_sgn (showE_sgns h)
  | .tuple xs, h => Sgn.add (Sgn.add (Sgn.lit _) (join_sgn (Sgn.lit _) (showE_sgns h))) (Sgn.lit _)
  | .dict kvs, h => by
    have h : kvs = [] := h
    subst h
    show Sgn (PyData.dict []).shown
    unfold Sgn
    decide +kernel
theorem showE_sgns : ∀ {ds : List PyData}, okEs ds → ∀ t ∈ PyData.shownAll ds, Sgn t
  | [], _ => fun t ht => nomatch ht
  | d :: ds, h => fun t ht => by
    rcases List.mem_cons.mp ht with e | ht
    · rw [e]; exact showE_sgn h.1
    · exact showE_sgns h.2 t ht
end
theorem siz_mem : ∀ {ds : List PyData} {d : PyData}, d ∈ ds → siz d + 2 ≤ sizAll ds
  | a :: ds, d, h => by
    show siz d + 2 ≤ siz a + 2 + sizAll ds
    rcases List.mem_cons.mp h with rfl | h
    · omega
    · have := siz_mem h; omega
/-- a value as it is drawn, bent, put: shown, small, flat enough -/
structure Ev1 (b s : Nat) (d : PyData) : Prop where
  ok : okE d
  dp : d.depth ≤ b
  sz : siz d ≤ s
theorem Ev1.mono {b s b' s' : Nat} {d : PyData} (h : Ev1 b s d) (hb : b ≤ b') (hs : s ≤ s') : Ev1 b' s' d := ⟨h.ok, Nat.le_trans h.dp hb, Nat.le_trans h.sz hs⟩
theorem Ev1.nq {b s : Nat} {d : PyData} (h : Ev1 b s d) : isQ d = false := by
  cases d with
  | dict kvs =>
    have e : kvs = [] := h.ok
    subst e
    rfl
  | _ => rfl
/-- the items of a tuple -/
theorem Ev1.mem {b s : Nat} {ds : List PyData} (h : Ev1 (b + 1) s (.tuple ds)) : ∀ d ∈ ds, Ev1 b s d := fun d hd => by
  refine ⟨okEs_mem h.ok d hd, ?_, ?_⟩
  · have h1 : PyData.depthAll ds + 1 ≤ b + 1 := h.dp
    have : ∀ {ds : List PyData} {d : PyData}, d ∈ ds → d.depth ≤ PyData.depthAll ds := by
      intro ds
      induction ds with
      | nil => intro d h; cases h
      | cons a r ih =>
        intro d h
        show d.depth ≤ max a.depth (PyData.depthAll r)
        rcases List.mem_cons.mp h with e | h
        · rw [e]; exact Nat.le_max_left _ _
        · exact Nat.le_trans (ih h) (Nat.le_max_right _ _)
    have := this hd
    omega
  · have h2 : sizAll ds + 3 ≤ s := h.sz
    have := siz_mem hd
    omega
end Cp
/-! Px: is_policy of data of any kind (the empty dict as a leaf). -/
namespace Cp
open PySem L2
noncomputable def sbX_has_form : Sv := (sSeq (sIf (bOr (bNot (mTru (mIsi "tuple" (mN 0)))) (bOr (mCmp gEqT (mN 0) (mTup aNil)) (bNot (mTru (mIsi "str" (mBin fIx (mN 0) (mK (.int 0)))))))) (sRet (mK (.bool false))) sNil) (sSeq (sIf (mCmp gNe (mTabG [("call", 5), ("wait", 2), ("then", 3), ("fallback", 4), ("retry", 3), ("timeout", 3), ("race", 4), ("hedge", 4), ("both", 3)] (mBin fIx (mN 0) (mK (.int 0)))) (mCal (gLen) (aCons (mV (mN 0)) aNil))) (sRet (mK (.bool false))) sNil) (sSeq (sIf (mCmp gEq (mBin fIx (mN 0) (mK (.int 0))) (mK (.str "call"))) (sRet (mCall semS_is_call (aCons (mV (mN 0)) aNil))) sNil) (sRet (eOr (bV (mCmp (gIn true) (mBin fIx (mN 0) (mK (.int 0))) (mK (.tuple [.str "wait", .str "retry", .str "fallback", .str "timeout", .str "race", .str "hedge"])))) (mCall semS_has_number (aCons (mV (mBin fIx (mN 0) (mK (.int 0)))) (aCons (mV (mBin fIx (mN 0) (mK (.int 1)))) aNil))))))))
noncomputable def semX_has_form : Fs := bodyF 1 1 sbX_has_form
noncomputable def sbX_is_policy : Sv := (sSeq (sPar [1, 2, 3] (aCons (mVc (mLst (aCons (mV (mTup (aCons (mV (mN 0)) (aCons (mV (mK (.int 1))) aNil)))) aNil))) (aCons (mVc mD0) (aCons (mV (mK (.int 0))) aNil)))) (sSeq (whGo (mCmp gNeL (mN 1) (mLst aNil)) (sSeq (sAsg (gTp 2 (gCons9 (gNm 4) (gCons9 (gNm 5) gNil9))) (mV (mPop (mN 1)))) (sSeq (sAugI 3 (mK (.int 1))) (sSeq (sIf (bOr (mCmp (gI fun i j => decide (j < i)) (mN 3) (mK (.int 40))) (bOr (mCmp (gI fun i j => decide (j < i)) (mN 5) (mK (.int 20))) (bNot (mTru (mCall semX_has_form (aCons (mV (mN 4)) aNil)))))) (sRet (mK (.bool false))) sNil) (sSeq (sIf (mCmp gEq (mBin fIx (mN 4) (mK (.int 0))) (mK (.str "call"))) (sSeq (sIf (mCmp (gInD false) (mBin fIx (mN 4) (mK (.int 1))) (mN 2)) (sRet (mK (.bool false))) sNil) (sDput (mN 2) (mBin fIx (mN 4) (mK (.int 1))) (mK (.bool true)))) sNil) (sExp (mExt (mN 1) (mLc (iOf (mCall semP_inner (aCons (mV (mN 4)) aNil))) (gNm 6) ttY (mTup (aCons (mV (mN 6)) (aCons (mV (mBin fAdd (mN 5) (mK (.int 1)))) aNil))) [6]))))))) 1048576) (sRet (mK (.bool true)))))
noncomputable def semX_is_policy : Fs := bodyF 7 1 sbX_is_policy
noncomputable def sbX_check_policy : Sv := (sIf (bNot (mTru (mCall semX_is_policy (aCons (mV (mN 0)) aNil)))) (sRaise1 "InvalidPolicy" "value" (aCons (mV (mN 0)) aNil)) sNil)
noncomputable def semX_check_policy : Fs := bodyF 1 1 sbX_check_policy
noncomputable def sbX_replaced : Sv := (sSeq (sExp (mCall semS_check_part (aCons (mV (mN 0)) (aCons (mV (mN 1)) aNil)))) (sSeq (sAsg (gNm 3) (mV (mCall (semS_put_at 25) (aCons (mV (mN 0)) (aCons (mV (mN 1)) (aCons (mV (mN 2)) aNil)))))) (sSeq (sExp (mCall semX_check_policy (aCons (mV (mN 3)) aNil))) (sRet (mN 3)))))
noncomputable def semX_replaced : Fs := bodyF 4 3 sbX_replaced
noncomputable def sbX_with_number : Sv := (sSeq (sAsg (gNm 3) (mV (mCall semS_part_at (aCons (mV (mN 0)) (aCons (mV (mN 1)) aNil))))) (sSeq (sIf (mCmp (gIn true) (mBin fIx (mN 3) (mK (.int 0))) (mK (.tuple [.str "wait", .str "retry", .str "fallback", .str "timeout", .str "race", .str "hedge"]))) (sRaise1 "NoPart" "value" (aCons (mV (mN 1)) aNil)) sNil) (sRet (mCall semX_replaced (aCons (mV (mN 0)) (aCons (mV (mN 1)) (aCons (mV (mBin fAdd (mTup (aCons (mV (mBin fIx (mN 3) (mK (.int 0)))) (aCons (mV (mN 2)) aNil))) (mSl (mN 3) (oSome (mK (.int 2))) oNone))) aNil)))))))
noncomputable def semX_with_number : Fs := bodyF 4 3 sbX_with_number
/-- data, the empty dict as a leaf, not too great -/
structure Od (d : PyData) : Prop where
  ok : okE d
  dp : d.depth ≤ 60
  sz : siz d ≤ 1000000
theorem Od.nq {d : PyData} (h : Od d) : isQ d = false := by
  cases d with
  | dict kvs =>
    obtain rfl : kvs = [] := h.ok
    rfl
  | _ => rfl
theorem sizAll_len : ∀ ds : List PyData, 2 * ds.length ≤ sizAll ds
  | [] => Nat.le_refl _
  | d :: ds => by
    have := sizAll_len ds
    show 2 * (ds.length + 1) ≤ siz d + 2 + sizAll ds
    omega
theorem sizAll_mem : ∀ {ds : List PyData} {d : PyData}, d ∈ ds → siz d ≤ sizAll ds
  | e :: ds, d, h => by
    show siz d ≤ siz e + 2 + sizAll ds
    rcases List.mem_cons.mp h with rfl | h
    · omega
    · have := sizAll_mem h; omega
theorem depthAll_mem : ∀ {ds : List PyData} {d : PyData}, d ∈ ds → d.depth ≤ PyData.depthAll ds
  | e :: ds, d, h => by
    show d.depth ≤ max e.depth (PyData.depthAll ds)
    rcases List.mem_cons.mp h with rfl | h
    · omega
    · have := depthAll_mem h; omega
theorem Od.mem {ds : List PyData} {d : PyData} (h : Od (.tuple ds)) (hm : d ∈ ds) : Od d ∧ d.depth + 1 ≤ (PyData.tuple ds).depth := by
  have h1 : okEs ds := h.ok
  have h2 : PyData.depthAll ds + 1 ≤ 60 := h.dp
  have h3 : sizAll ds + 3 ≤ 1000000 := h.sz
  have := depthAll_mem hm
  have := sizAll_mem hm
  exact ⟨⟨okEs_mem h1 d hm, by omega, by omega⟩, by show d.depth + 1 ≤ PyData.depthAll ds + 1; omega⟩
theorem Od.len {ds : List PyData} (h : Od (.tuple ds)) : ds.length ≤ 500000 := by
  have h3 : sizAll ds + 3 ≤ 1000000 := h.sz
  have := sizAll_len ds
  omega
theorem fAll_map {α : Type} (f : α → Bool) (l : List α) : fAll (.list (l.map fun d => PyData.bool (f d))) = some (.d (.bool (l.all f))) := by
  have e : boolsD (l.map fun d => PyData.bool (f d)) = some (l.map f) := by
    induction l with
    | nil => rfl
    | cons d l ih => show (boolsD (l.map fun d => PyData.bool (f d))).map (f d :: ·) = _; rw [ih]; rfl
  show (boolsD _).map (fun ns => Rv.d (.bool (ns.all fun b => b))) = _
  rw [e]
  show some (Rv.d (.bool ((l.map f).all fun b => b))) = _
  rw [List.all_map]; rfl
def numB : PyData → Bool
  | .int i => decide (0 ≤ i) && decide (i ≤ 1000000000)
  | _ => false
def labB : PyData → Bool
  | .str x => decide (1 ≤ x.length) && decide (x.length ≤ 8) && x.cps.toList.all fun c => decide (c ∈ SIG.cps.toList)
  | _ => false
def spanB : PyData → Bool
  | .tuple [.int i, .int j] => numB (.int i) && numB (.int j) && decide (i ≤ j)
  | _ => false
def nspB : PyData → Bool
  | .none => true
  | d => spanB d
def isNo : PyData → Bool
  | .none => true
  | _ => false
def cbX (g b : PyData) : PyData → Bool
  | .bool v => nspB g && nspB b && (v || !isNo g || !isNo b)
  | _ => false
def callB (l g b h : PyData) : Bool := labB l && cbX g b h
section
variable {st : Sto} {P : Rv → Sto → Prop}
theorem w_is_numberD {d : PyData} (hq : isQ d = false) (h : P (.d (.bool (numB d))) st) : WVe noE (semS_is_number [.d d] st) P := by
  unfold semS_is_number sbS_is_number
  rw [W_body]
  cases d with
  | int i =>
    simp
    by_cases c1 : 0 ≤ i <;> by_cases c2 : i ≤ 1000000000 <;> simp [c1, c2] <;> simpa [numB, c1, c2] using h
  | dict kvs =>
    simp [hq]
    have : kitB (tyD (.dict kvs)) "int" = some false := kitB_int _
    rw [this]
    exact h
  | bool b => simp; exact h
  | none => simp; exact h
  | str b => simp; exact h
  | tuple b => simp; exact h
  | list b =>
    simp
    have : kitB (tyD (.list b)) "int" = some false := kitB_int _
    rw [this]
    exact h
theorem w_is_labelD {d : PyData} (hd : Od d) (h : P (.d (.bool (labB d))) st) : WVe noE (semS_is_label [.d d] st) P := by
  have hq := hd.nq
  unfold semS_is_label sbS_is_label
  rw [W_body]
  cases d with
  | str x =>
    have h3 : 10 * x.length + 2 ≤ 1000000 := hd.sz
    have h5 : x.length ≤ 16777216 := by omega
    simp [szl, h5]
    by_cases c1 : (1 : Int) ≤ x.length <;> by_cases c2 : (x.length : Int) ≤ 8 <;> simp [c1, c2]
    · have hsl : (signs x).length ≤ sizeLine := by unfold signs; rw [List.length_map, szl]; exact h5
      have k1 : 1 ≤ x.length := by omega
      have k2 : x.length ≤ 8 := by omega
      refine lc_map (fun d => match d with
        | .str y => .bool (y.cps.toList.all fun c => decide (c ∈ SIG.cps.toList))
        | _ => .bool false) (fun d hd => ?_) hsl ?_
      · unfold signs at hd
        obtain ⟨c, hc, rfl⟩ := List.mem_map.mp hd
        simp [wipeE, gInS, SIG]
      · have e : (signs x).map (fun d => match d with
          | .str y => PyData.bool (y.cps.toList.all fun c => decide (c ∈ SIG.cps.toList))
          | _ => .bool false) = x.cps.toList.map fun c => PyData.bool (decide (c ∈ SIG.cps.toList)) := by
          unfold signs; rw [List.map_map]
          refine List.map_congr_left fun c _ => ?_
          simp
        rw [e, fAll_map]
        simpa [labB, k1, k2] using h
    · have k2 : ¬ x.length ≤ 8 := by omega
      simpa [labB, k2] using h
    · have k1 : ¬ 1 ≤ x.length := by omega
      simpa [labB, k1] using h
    · have k1 : ¬ 1 ≤ x.length := by omega
      simpa [labB, k1] using h
  | dict kvs =>
    have : kitB (tyD (.dict kvs)) "str" = some false := by show kitB "dict" "str" = _; decide +kernel
    simp [hq, this]; exact h
  | int i => simp; exact h
  | bool b =>
    have : kitB "bool" "str" = some false := by decide +kernel
    simp [this]; exact h
  | none => simp; exact h
  | tuple b => simp; exact h
  | list b =>
    have : kitB (tyD (.list b)) "str" = some false := by show kitB "list" "str" = _; decide +kernel
    simp [this]; exact h
theorem w_is_spanD {d : PyData} (hd : Od d) (h : P (.d (.bool (spanB d))) st) : WVe noE (semS_is_span [.d d] st) P := by
  have hq := hd.nq
  unfold semS_is_span sbS_is_span
  rw [W_body]
  cases d with
  | tuple ds =>
    have hl := hd.len
    have hl2 : ds.length ≤ 16777216 := by omega
    simp [szl, hl2]
    by_cases c : (ds.length : Int) = 2
    · have c' : ds.length = 2 := by omega
      obtain ⟨a, b, rfl⟩ : ∃ a b, ds = [a, b] := by
        match ds, c' with
        | [a, b], _ => exact ⟨a, b, rfl⟩
      simp
      refine lc_map (fun d => .bool (numB d)) (fun d hd' => ?_) (by simp [szl]) ?_
      · simp [wipeE]
        exact w_is_numberD (hd.mem (by simpa using hd')).1.nq (by simp)
      · rw [fAll_map]
        by_cases h1 : numB a = true <;> by_cases h2 : numB b = true
        · obtain ⟨i, rfl⟩ : ∃ i, a = .int i := by cases a <;> first | exact ⟨_, rfl⟩ | cases h1
          obtain ⟨j, rfl⟩ : ∃ j, b = .int j := by cases b <;> first | exact ⟨_, rfl⟩ | cases h2
          have e : spanB (.tuple [.int i, .int j]) = decide (i ≤ j) := by
            show (numB (.int i) && numB (.int j) && decide (i ≤ j)) = _
            rw [h1, h2]; rfl
          rw [e] at h
          simp [h1, h2]
          simpa using h
        · have e : spanB (.tuple [a, b]) = false := by
            unfold spanB; split
            · rename_i i j e; injection e with e; injection e with e1 e2; injection e2 with e2 _; subst e1 e2; simp at h2; rw [h2]; simp
            · rfl
          rw [e] at h
          simp [h1, h2]
          exact h
        · have e : spanB (.tuple [a, b]) = false := by
            unfold spanB; split
            · rename_i i j e; injection e with e; injection e with e1 e2; injection e2 with e2 _; subst e1 e2; simp at h1; rw [h1]; simp
            · rfl
          rw [e] at h
          simp [h1, h2]
          exact h
        · have e : spanB (.tuple [a, b]) = false := by
            unfold spanB; split
            · rename_i i j e; injection e with e; injection e with e1 e2; injection e2 with e2 _; subst e1 e2; simp at h1; rw [h1]; simp
            · rfl
          rw [e] at h
          simp [h1, h2]
          exact h
    · have e : spanB (.tuple ds) = false := by
        unfold spanB; split
        · rename_i i j e; injection e with e; subst e; simp at c
        · rfl
      rw [e] at h
      simp [c]
      exact h
  | dict kvs =>
    have : kitB (tyD (.dict kvs)) "tuple" = some false := by show kitB "dict" "tuple" = _; decide +kernel
    simp [hq, this]; exact h
  | int i => simp; exact h
  | bool b => 
    have : kitB "bool" "tuple" = some false := by decide +kernel
    simp [this]; exact h
  | none => simp; exact h
  | str b => simp; exact h
  | list b =>
    have : kitB (tyD (.list b)) "tuple" = some false := by show kitB "list" "tuple" = _; decide +kernel
    simp [this]; exact h
theorem isT_bool (d : PyData) : isT "bool" d = match d with
    | .bool _ => true
    | _ => false := by cases d <;> simp [isT, tyD]
theorem gIsN_is (d : PyData) : gIsN d .none = some (isNo d) := by cases d <;> rfl
theorem gNotN_is (d : PyData) : gNotN d .none = some (!isNo d) := by cases d <;> rfl
theorem w_is_callD {k l g b hh : PyData} (hd : Od (.tuple [k, l, g, b, hh])) (h : P (.d (.bool (callB l g b hh))) st) : WVe noE (semS_is_call [.d (.tuple [k, l, g, b, hh])] st) P := by
  have ol := (hd.mem (d := l) (by simp)).1
  have og := (hd.mem (d := g) (by simp)).1
  have ob := (hd.mem (d := b) (by simp)).1
  have oh := (hd.mem (d := hh) (by simp)).1
  unfold semS_is_call sbS_is_call
  rw [W_body]
  simp
  refine w_is_labelD ol ?_
  cases e : labB l with
  | false =>
    have e2 : callB l g b hh = false := by unfold callB; rw [e]; rfl
    rw [e2] at h
    simp
    exact h
  | true =>
    simp [oh.nq, kitB_bool, szl]
    have e0 : callB l g b hh = cbX g b hh := by unfold callB; rw [e]; rfl
    rw [e0] at h
    unfold cbX at h
    cases hh with
    | bool v =>
      simp [isT_bool]
      refine lc_map (fun d => .bool (nspB d)) (fun d hd' => ?_) (by simp [szl]) ?_
      · have od : Od d := by
          simp at hd'
          rcases hd' with rfl | rfl <;> assumption
        simp [wipeE, gIsN_is]
        cases d with
        | none => simp [isNo, nspB]
        | _ =>
          simp [isNo]
          exact w_is_spanD od (by simp [nspB])
      · rw [fAll_map]
        by_cases hn : (nspB g && nspB b) = true
        · have hn2 : [g, b].all nspB = true := by simpa using hn
          rw [hn] at h
          rw [hn2]
          simp
          cases v with
          | true => exact h
          | false =>
            simp [gNotN_is]
            cases hg : isNo g <;> cases hb : isNo b <;> simp [hg, hb] at h ⊢ <;> exact h
        · have hn2 : [g, b].all nspB = false := by simpa using hn
          have hn3 : (nspB g && nspB b) = false := by simpa using hn
          rw [hn3] at h
          rw [hn2]
          simp
          exact h
    | _ => simp [isT_bool]; exact h
def numfB (k : Str) (d : PyData) : Bool := if k = Str.ofString "wait" then numB d else if k = Str.ofString "retry" then (match d with
  | .tuple xs => decide (xs.length ≤ 5) && xs.all numB
  | _ => false) else isNo d || numB d
theorem gEq_strs {a : Str} (h : okS (.str a)) (b : String) : gEq (.str a) (.str (Str.ofString b)) = some (decide (a = Str.ofString b)) := by
  rw [gEq_at (a := .str a) (b := .str (Str.ofString b)) h (sgn_ofS _) (Nat.zero_le _) (Nat.zero_le _)]
  show some (a == Str.ofString b) = _
  rw [Bool.eq_iff_iff.mpr (by simp : (a == Str.ofString b) = true ↔ decide (a = Str.ofString b) = true)]
theorem w_has_numberD {k : Str} {d : PyData} (hk : okS (.str k)) (hd : Od d) (h : P (.d (.bool (numfB k d))) st) : WVe noE (semS_has_number [.d (.str k), .d d] st) P := by
  unfold semS_has_number sbS_has_number
  rw [W_body]
  unfold numfB at h
  by_cases c1 : k = Str.ofString "wait"
  · subst c1
    simp at h ⊢
    exact w_is_numberD hd.nq (by simpa using h)
  · by_cases c2 : k = Str.ofString "retry"
    · subst c2
      simp at h ⊢
      rw [hd.nq]
      cases d with
      | tuple xs =>
        have hl := hd.len
        have hl2 : xs.length ≤ 16777216 := by omega
        simp [szl, hl2]
        by_cases c : (xs.length : Int) ≤ 5
        · have c' : xs.length ≤ 5 := by omega
          simp [c]
          refine lc_map (fun d => .bool (numB d)) (fun d hd' => ?_) (by rw [szl]; omega) ?_
          · simp [wipeE]
            exact w_is_numberD (hd.mem hd').1.nq (by simp)
          · rw [fAll_map]
            simpa [c'] using h
        · have c' : ¬ xs.length ≤ 5 := by omega
          simp [c]
          simpa [c'] using h
      | dict kvs =>
        have : kitB (tyD (.dict kvs)) "tuple" = some false := by show kitB "dict" "tuple" = _; decide +kernel
        simp [this]; exact h
      | int i => simp; exact h
      | bool b =>
        have : kitB "bool" "tuple" = some false := by decide +kernel
        simp [this]; exact h
      | none => simp; exact h
      | str b => simp; exact h
      | list b =>
        have : kitB (tyD (.list b)) "tuple" = some false := by show kitB "list" "tuple" = _; decide +kernel
        simp [this]; exact h
    · rw [if_neg c1, if_neg c2] at h
      simp [gEq_strs hk, c1, c2, gIsN_is]
      cases hi : isNo d with
      | true => rw [hi] at h; exact h
      | false =>
        rw [hi] at h
        simp
        exact w_is_numberD hd.nq (by simpa using h)
/-! ### has_form -/
def sizK : List (Str × Int) := [("call", 5), ("wait", 2), ("then", 3), ("fallback", 4), ("retry", 3), ("timeout", 3), ("race", 4), ("hedge", 4), ("both", 3)]
def nbrK : List Str := ["wait", "retry", "fallback", "timeout", "race", "hedge"]
def hfT (k : Str) (ds : List PyData) : Bool := decide (sizK.lookup k = some (ds.length : Int)) &&
  (if k = Str.ofString "call" then (match ds with
    | [_, l, g, b, h] => callB l g b h
    | _ => false) else if k ∈ nbrK then (match ds with
    | _ :: n :: _ => numfB k n
    | _ => false) else true)
def hfB : PyData → Bool
  | .tuple (.str k :: r) => hfT k (.str k :: r)
  | _ => false
theorem gIn_strsT (x : Str) (xs : List Str) : gIn true (.str x) (.tuple (xs.map PyData.str)) = some (decide (x ∉ xs)) := by
  have h := gIn_strs x xs
  unfold gIn at h ⊢
  simp only [itemsD] at h ⊢
  have : (xs.map PyData.str).all flatD = true := by rw [List.all_map]; exact List.all_eq_true.mpr fun _ _ => rfl
  rw [this] at h ⊢
  simp only [flatD, Bool.true_and, if_true, Bool.false_eq_true, if_false] at h ⊢
  injection h with h
  rw [h]
  simp
theorem gIn_nbr {k : Str} : gIn true (.str k) (.tuple [.str (Str.ofString "wait"), .str (Str.ofString "retry"), .str (Str.ofString "fallback"), .str (Str.ofString "timeout"), .str (Str.ofString "race"), .str (Str.ofString "hedge")]) = some (decide (k ∉ nbrK)) := gIn_strsT k nbrK
theorem sizK_ge {k : Str} {i : Int} (h : sizK.lookup k = some i) : 2 ≤ i := by
  have hm := PySem.mem_of_lookup h
  have : sizK.all (fun p => decide (2 ≤ p.2)) = true := by decide
  exact of_decide_eq_true (List.all_eq_true.mp this _ hm)
theorem sizK_le {k : Str} {i : Int} (h : sizK.lookup k = some i) : i ≤ 5 := by
  have hm := PySem.mem_of_lookup h
  have : sizK.all (fun p => decide (p.2 ≤ 5)) = true := by decide
  exact of_decide_eq_true (List.all_eq_true.mp this _ hm)
theorem gNe_ii (i j : Int) (hi : i.natAbs < 2 ^ 60) (hj : j.natAbs < 2 ^ 60) : gNe (.int i) (.int j) = some (!decide (i = j)) := by
  rw [gNe_at (a := .int i) (b := .int j) (log_small hi (by decide)) (log_small hj (by decide)) (Nat.zero_le _) (Nat.zero_le _)]
  show some (!(i == j)) = _
  rw [Bool.eq_iff_iff.mpr (by simp : (i == j) = true ↔ decide (i = j) = true)]
theorem w_has_formD {d : PyData} (hd : Od d) (h : P (.d (.bool (hfB d))) st) : WVe noE (semX_has_form [.d d] st) P := by
  have hq := hd.nq
  unfold semX_has_form sbX_has_form
  rw [W_body]
  cases d with
  | tuple ds =>
    have hl := hd.len
    have hl2 : ds.length ≤ 16777216 := by omega
    cases ds with
    | nil => simp; exact h
    | cons x r =>
      have hx := (hd.mem (d := x) (by simp)).1
      simp [hx.nq]
      cases x with
      | str k =>
        have hk := hx.ok
        simp
        have e : List.lookup k [(Str.ofString "call", (5 : Int)), (Str.ofString "wait", 2), (Str.ofString "then", 3), (Str.ofString "fallback", 4), (Str.ofString "retry", 3), (Str.ofString "timeout", 3), (Str.ofString "race", 4), (Str.ofString "hedge", 4), (Str.ofString "both", 3)] = sizK.lookup k := rfl
        rw [e]
        have h : P (.d (.bool (hfT k (.str k :: r)))) st := h
        unfold hfT at h
        cases q : sizK.lookup k with
        | none =>
          rw [q] at h
          simp [gNe_none_i]
          simpa using h
        | some i =>
          rw [q] at h
          have i5 := sizK_le q
          have i2 := sizK_ge q
          have hll : r.length + 1 ≤ 500000 := hl
          rw [gNe_ii i _ (by omega) (by omega)]
          by_cases c : i = (r.length : Int) + 1
          · have hr : (PyData.str k :: r).length = r.length + 1 := rfl
            have hc : (some i = some (((PyData.str k :: r).length : Nat) : Int)) = True := by simp [c]
            simp only [hc, decide_true, Bool.true_and] at h
            simp [c, gEq_strs hk]
            by_cases c1 : k = Str.ofString "call"
            · rw [if_pos c1] at h
              have c5 : r.length = 4 := by
                rw [c1] at q
                have : sizK.lookup (Str.ofString "call") = some 5 := by decide +kernel
                rw [this] at q; injection q with q; omega
              obtain ⟨l, g, b, hh, rfl⟩ : ∃ l g b hh, r = [l, g, b, hh] := by
                match r, c5 with
                | [l, g, b, hh], _ => exact ⟨l, g, b, hh, rfl⟩
              simp [c1]
              rw [← c1]
              exact w_is_callD hd (by simpa using h)
            · rw [if_neg c1] at h
              simp only [c1, decide_false, Bool.false_eq_true, if_false, gIn_nbr]
              by_cases c2 : k ∈ nbrK
              · rw [if_pos c2] at h
                cases r with
                | nil => simp at c; omega
                | cons n r' =>
                  have hnn := (hd.mem (d := n) (by simp)).1
                  simp [c2]
                  exact w_has_numberD hk hnn (by simpa using h)
              · rw [if_neg c2] at h
                simp [c2]
                exact h
          · have hc : (some i = some (((PyData.str k :: r).length : Nat) : Int)) = False := by simp; omega
            simp only [hc, decide_false, Bool.false_and] at h
            simp [c]
            exact h
      | dict kvs =>
        have : kitB (tyD (.dict kvs)) "str" = some false := by show kitB "dict" "str" = _; decide +kernel
        simp [this]; exact h
      | int i => simp; exact h
      | none => simp; exact h
      | tuple b => simp; exact h
      | bool b =>
        have : kitB "bool" "str" = some false := by decide +kernel
        simp [this]; exact h
      | list b =>
        have : kitB (tyD (.list b)) "str" = some false := by show kitB "list" "str" = _; decide +kernel
        simp [this]; exact h
  | dict kvs =>
    have : kitB (tyD (.dict kvs)) "tuple" = some false := by show kitB "dict" "tuple" = _; decide +kernel
    simp [hq, this]; exact h
  | int i => simp; exact h
  | bool b =>
    have : kitB "bool" "tuple" = some false := by decide +kernel
    simp [this]; exact h
  | none => simp; exact h
  | str b => simp; exact h
  | list b =>
    have : kitB (tyD (.list b)) "tuple" = some false := by show kitB "list" "tuple" = _; decide +kernel
    simp [this]; exact h
end
end Cp
/-! Px2: is_policy of data of any kind: the loop. -/
namespace Cp
open PySem L2
def innD : PyData → List PyData
  | .tuple (.str k :: r) => if k = Str.ofString "call" ∨ k = Str.ofString "wait" then [] else if k = Str.ofString "then" ∨ k = Str.ofString "both" then r else r.drop 1
  | _ => []
def labD : PyData → Option Str
  | .tuple (.str k :: .str l :: _) => if k = Str.ofString "call" then some l else none
  | _ => none
abbrev StkE := List (PyData × Nat)
def ipGo : Nat → StkE → List Str → Nat → Bool
  | 0, _, _, _ => false
  | f + 1, stk, seen, many => match stk.reverse with
    | [] => true
    | (d, dp) :: rest => if 40 < many + 1 ∨ 20 < dp ∨ hfB d = false then false else match labD d with
      | some l => if l ∈ seen then false else ipGo f (rest.reverse ++ (innD d).map fun x => (x, dp + 1)) (seen ++ [l]) (many + 1)
      | none => ipGo f (rest.reverse ++ (innD d).map fun x => (x, dp + 1)) seen (many + 1)
def ipD (d : PyData) : Bool := ipGo 42 [(d, 1)] [] 0
def stkE (s : StkE) : List PyData := s.map fun x => .tuple [x.1, .int (x.2 : Int)]
theorem ipGo_nil (f : Nat) (seen : List Str) (many : Nat) : ipGo (f + 1) [] seen many = true := rfl
theorem ipGo_snoc (f : Nat) (ys : StkE) (d : PyData) (dp : Nat) (seen : List Str) (many : Nat) : ipGo (f + 1) (ys ++ [(d, dp)]) seen many = if 40 < many + 1 ∨ 20 < dp ∨ hfB d = false then false else match labD d with
      | some l => if l ∈ seen then false else ipGo f (ys ++ (innD d).map fun x => (x, dp + 1)) (seen ++ [l]) (many + 1)
      | none => ipGo f (ys ++ (innD d).map fun x => (x, dp + 1)) seen (many + 1) := by
  have e : (ys ++ [(d, dp)]).reverse = (d, dp) :: ys.reverse := by simp
  conv => lhs; unfold ipGo
  rw [e]
  simp only [List.reverse_reverse]
theorem innD_mem {d x : PyData} (h : Od d) (hx : x ∈ innD d) : Od x ∧ x.depth + 1 ≤ d.depth := by
  unfold innD at hx
  split at hx
  · rename_i k r
    have hm : x ∈ r := by
      split at hx
      · cases hx
      · split at hx
        · exact hx
        · exact List.mem_of_mem_drop hx
    exact h.mem (List.mem_cons_of_mem _ hm)
  · cases hx
theorem innD_len {d : PyData} (h : hfB d = true) : (innD d).length ≤ 4 := by
  unfold hfB at h
  split at h
  · rename_i k r
    unfold hfT at h
    rw [Bool.and_eq_true] at h
    have h1 := of_decide_eq_true h.1
    have h5 := sizK_le h1
    have hr : (PyData.str k :: r).length = r.length + 1 := rfl
    rw [hr] at h5
    show (if _ then _ else _ : List PyData).length ≤ 4
    split
    · exact Nat.zero_le _
    · split
      · omega
      · rw [List.length_drop]; omega
  · cases h
section
variable {st : Sto} {P : Rv → Sto → Prop} {E : Er → Sto → Prop}
theorem gIn_strsF (x : Str) (xs : List Str) : gIn false (.str x) (.tuple (xs.map PyData.str)) = some (decide (x ∈ xs)) := by
  have h := gIn_strs x xs
  unfold gIn at h ⊢
  simp only [itemsD] at h ⊢
  exact h
theorem cutD2 (a b : PyData) (ds : List PyData) : cutD (a :: b :: ds) (some 2) none = ds := by
  unfold cutD
  have : HT.sIx (a :: b :: ds).length 0 (some 2) = 2 := by
    rw [show (2 : Int) = ((2 : Nat) : Int) from rfl, HT.sIx_nat]
    simp
  rw [this]
  show ((a :: b :: ds).drop 2).take ((a :: b :: ds).length - 2) = ds
  simp
theorem w_innerD {d : PyData} (hd : Od d) (hf : hfB d = true) (h : P (.d (.tuple (innD d))) st) : WVe E (semP_inner [.d d] st) P := by
  unfold semP_inner sbP_inner
  rw [W_body]
  unfold hfB at hf
  split at hf
  · rename_i k r
    have e1 := gIn_strsF k [Str.ofString "call", Str.ofString "wait"]
    have e2 := gIn_strsF k [Str.ofString "then", Str.ofString "both"]
    simp only [List.map_cons, List.map_nil] at e1 e2
    simp [szl, e1, e2]
    simp only [innD] at h
    by_cases c1 : k = Str.ofString "call" ∨ k = Str.ofString "wait"
    · rw [if_pos c1] at h ⊢; exact h
    · rw [if_neg c1] at h ⊢
      by_cases c2 : k = Str.ofString "then" ∨ k = Str.ofString "both"
      · rw [if_pos c2] at h ⊢
        rw [cutD1]; exact h
      · rw [if_neg c2] at h ⊢
        unfold hfT at hf
        rw [Bool.and_eq_true] at hf
        have h2 := sizK_ge (of_decide_eq_true hf.1)
        cases r with
        | nil => exact absurd h2 (by simp)
        | cons n r => rw [cutD2]; exact h
  · cases hf
theorem whGo_3 {c : En → Sto → Res Bool} {b : Sv} {ρ : En} {N B C : En → Sto → Prop} {R : Rv → Sto → Prop} (I M : Nat → En → Sto → Prop) {n m : Nat} (hnm : m < n) (h0 : I m ρ st)
    (hc : ∀ k ρ s, I k ρ s → WVe E (c ρ s) fun t s1 => s1 = s ∧ (t = true → 0 < k ∧ M k ρ s) ∧ (t = false → N ρ s)) (hb : ∀ k ρ s, M (k + 1) ρ s → WSe E (b ρ s) (I k) N (I k) R) : WSe E (whGo c b n ρ st) N B C R :=
  whGo_by I n m hnm h0 fun k ρ s hI => WV_mono (hc k ρ s hI) fun t s1 ⟨e, h1, h2⟩ => by
    subst e
    cases t with
    | true =>
      rw [if_pos rfl]
      have := h1 rfl
      obtain ⟨j, rfl⟩ : ∃ j, k = j + 1 := ⟨k - 1, by omega⟩
      exact ⟨j, rfl, hb j ρ s1 this.2⟩
    | false => rw [if_neg (by decide)]; exact h2 rfl
structure Ipw (d : PyData) (k : Nat) (stk : StkE) (seen : List Str) (many : Nat) : Prop where
  hk : k + many = 42
  hm : many ≤ 40
  go : ipGo k stk seen many = ipD d
  all : ∀ x ∈ stk, Od x.1 ∧ x.1.depth ≤ 58 ∧ x.2 ≤ many + 1
  sl : stk.length ≤ 4 * many + 1
  sz : seen.length ≤ many
def IipD (sc : List Str → Cl) (d : PyData) (st : Sto) (k : Nat) (ρ : En) (s : Sto) : Prop := ∃ (stk : StkE) (seen : List Str) (many : Nat) (x4 x5 x6 : Option Vl),
  ρ = [some (.d d), some (.c st.length), some (.c (st.length + 1)), some (.d (.int (many : Int))), x4, x5, x6] ∧ s = st ++ [.l (stkE stk), sc seen] ∧ Ipw d k stk seen many
def MipD (sc : List Str → Cl) (d : PyData) (st : Sto) (k : Nat) (ρ : En) (s : Sto) : Prop := ∃ (ys : StkE) (q : PyData) (dp : Nat) (seen : List Str) (many : Nat) (x4 x5 x6 : Option Vl),
  ρ = [some (.d d), some (.c st.length), some (.c (st.length + 1)), some (.d (.int (many : Int))), x4, x5, x6] ∧ s = st ++ [.l (stkE ys ++ [.tuple [q, .int (dp : Int)]]), sc seen] ∧ Ipw d k (ys ++ [(q, dp)]) seen many
theorem stkE_app (a b : StkE) : stkE (a ++ b) = stkE a ++ stkE b := by unfold stkE; rw [List.map_append]
theorem Ipw.mid {sc : List Str → Cl} {d : PyData} {k : Nat} {ρ : En} {s : Sto} (h : IipD sc d st k ρ s) : (∃ seen many x4 x5 x6, ρ = [some (.d d), some (.c st.length), some (.c (st.length + 1)), some (.d (.int ((many : Nat) : Int))), x4, x5, x6] ∧ s = st ++ [.l [], sc seen] ∧ ipD d = true) ∨ (0 < k ∧ MipD sc d st k ρ s) := by
  obtain ⟨stk, seen, many, x4, x5, x6, rfl, rfl, w⟩ := h
  have hk : 0 < k := by have := w.hk; have := w.hm; omega
  rcases List.eq_nil_or_concat stk with e | ⟨ys, y, e⟩
  · subst e
    refine .inl ⟨seen, many, x4, x5, x6, rfl, rfl, ?_⟩
    obtain ⟨f, rfl⟩ : ∃ f, k = f + 1 := ⟨k - 1, by omega⟩
    rw [← w.go, ipGo_nil]
  · rw [List.concat_eq_append] at e
    subst e
    refine .inr ⟨hk, ys, y.1, y.2, seen, many, x4, x5, x6, rfl, ?_, w⟩
    rw [stkE_app]; rfl
/-- the next round -/
theorem Ipw.next {d q : PyData} {k dp many : Nat} {ys : StkE} {seen seen' : List Str} (w : Ipw d (k + 1) (ys ++ [(q, dp)]) seen many) (hf : hfB q = true) (h20 : ¬ 20 < dp) (h40 : ¬ 40 < many + 1) (hs : match labD q with
    | some l => l ∉ seen ∧ seen' = seen ++ [l]
    | none => seen' = seen) : Ipw d k (ys ++ (innD q).map fun x => (x, dp + 1)) seen' (many + 1) := by
  have hg := w.go
  rw [ipGo_snoc, if_neg (by rw [hf]; simp; omega)] at hg
  have hq := w.all (q, dp) (by simp)
  refine ⟨by have := w.hk; omega, by omega, ?_, fun x hx => ?_, ?_, ?_⟩
  · rw [← hg]
    cases e : labD q with
    | none => rw [e] at hs; simp only at hs ⊢; rw [hs]
    | some l => rw [e] at hs; simp only at hs ⊢; rw [if_neg hs.1, hs.2]
  · rcases List.mem_append.mp hx with hx | hx
    · obtain ⟨h1, h2, h3⟩ := w.all x (List.mem_append_left _ hx)
      exact ⟨h1, h2, by omega⟩
    · obtain ⟨y, hy, rfl⟩ := List.mem_map.mp hx
      obtain ⟨h1, h2⟩ := innD_mem hq.1 hy
      exact ⟨h1, by have := hq.2.1; simp only at this ⊢; omega, by have := hq.2.2; simp only at this ⊢; omega⟩
  · have h1 := innD_len hf
    have h2 := w.sl
    rw [List.length_append, List.length_map]
    rw [List.length_append] at h2
    simp at h2
    omega
  · have h1 := w.sz
    cases e : labD q with
    | none => rw [e] at hs; simp only at hs; rw [hs]; omega
    | some l => rw [e] at hs; simp only at hs; rw [hs.2, List.length_append]; simp; omega
theorem Ipw.bad {d q : PyData} {k dp many : Nat} {ys : StkE} {seen : List Str} (w : Ipw d (k + 1) (ys ++ [(q, dp)]) seen many) (hf : 40 < many + 1 ∨ 20 < dp ∨ hfB q = false) : ipD d = false := by
  have hg := w.go
  rw [ipGo_snoc, if_pos hf] at hg
  exact hg.symm
theorem Ipw.twice {d q : PyData} {k dp many : Nat} {ys : StkE} {seen : List Str} {l : Str} (w : Ipw d (k + 1) (ys ++ [(q, dp)]) seen many) (hl : labD q = some l) (hm : l ∈ seen) : ipD d = false := by
  have hg := w.go
  rw [ipGo_snoc] at hg
  split at hg
  · exact hg.symm
  · rw [hl] at hg
    simp only at hg
    rw [if_pos hm] at hg
    exact hg.symm
theorem Ipw.start {d : PyData} (hd : Od d) (h50 : d.depth ≤ 58) : Ipw d 42 [(d, 1)] [] 0 := ⟨rfl, by decide, rfl, fun x hx => by
  rw [List.mem_singleton] at hx; subst hx; exact ⟨hd, h50, Nat.le_refl _⟩, Nat.le_refl _, Nat.le_refl _⟩
theorem labD_call {l g b h : PyData} (hc : callB l g b h = true) : ∃ x, l = .str x := by
  unfold callB at hc
  rw [Bool.and_eq_true] at hc
  cases l with
  | str x => exact ⟨x, rfl⟩
  | _ => exact absurd hc.1 Bool.false_ne_true
theorem seen_some (l : Str) (xs : List Str) (h : l ∈ xs) : (lookD (seenD xs) (.str l)).isSome = true := by
  induction xs with
  | nil => cases h
  | cons x xs ih =>
    show (lookD ((.str x, .bool true) :: seenD xs) (.str l)).isSome = true
    unfold lookD
    by_cases e : keyE (.str x) (.str l) = true
    · simp [e]
    · have : x ≠ l := fun c => e (by rw [keyE_str]; simp [c])
      simp [e]
      have := ih (by simpa [Ne.symm this] using h)
      simpa [Option.isSome_iff_exists] using this
theorem hf_call {q : PyData} (hf : hfB q = true) : (∃ l r, q = .tuple (.str (Str.ofString "call") :: .str l :: r) ∧ labD q = some l) ∨ (∃ k n r, q = .tuple (.str k :: n :: r) ∧ k ≠ Str.ofString "call" ∧ labD q = none) := by
  unfold hfB at hf
  split at hf
  · rename_i k r
    unfold hfT at hf
    rw [Bool.and_eq_true] at hf
    have h2 := sizK_ge (of_decide_eq_true hf.1)
    cases r with
    | nil => exact absurd h2 (by simp)
    | cons n r =>
      by_cases c : k = Str.ofString "call"
      · have h3 := hf.2
        rw [if_pos c] at h3
        split at h3
        · rename_i e
          injection e with e1 e2
          injection e2 with e2 e3
          obtain ⟨x, hx⟩ := labD_call h3
          subst hx
          refine .inl ⟨x, r, ?_, ?_⟩
          · rw [c, e2]
          · rw [c, e2]; simp [labD]
        · cases h3
      · refine .inr ⟨k, n, r, rfl, c, ?_⟩
        unfold labD
        split
        · rename_i e
          injection e with e1; injection e1 with e1 e2; injection e1 with e1
          subst e1
          rw [if_neg c]
        · rfl
  · cases hf
theorem w_is_policyD {d : PyData} (hd : Od d) (h50 : d.depth ≤ 58) (h : ∀ t, P (.d (.bool (ipD d))) (st ++ t)) : WVe noE (semX_is_policy [.d d] st) P := by
  unfold semX_is_policy sbX_is_policy
  rw [W_body]
  refine ⟨rfl, ?_⟩
  refine seq_cut (IipD (fun xs => .m (seenD xs)) d st 42) ?_ ?_
  · simp [mD0, szl]
    exact ⟨[(d, 1)], [], 0, none, none, none, by simp, by simp [stkE, seenD], Ipw.start hd h50⟩
  intro ρ s hI
  refine seq_cut (fun ρ s => (∃ t, s = st ++ t) ∧ ipD d = true) ?_ ?_
  · refine whGo_3 (IipD (fun xs => .m (seenD xs)) d st) (MipD (fun xs => .m (seenD xs)) d st) (n := 1048576) (m := 42) (by decide) hI ?_ ?_
    · intro k ρ s hI
      rcases Ipw.mid hI with ⟨seen, many, x4, x5, x6, rfl, rfl, e⟩ | ⟨hk, hM⟩
      · have e2 : cmp2 gNeL (st ++ [Cl.l [], .m (seenD seen)]) (.c st.length) (.d (.list [])) = some false := by
          rw [cmp2_of (a := .list []) (b := .list []) (by simp) rfl]; rfl
        simp [e2]
        exact e
      · have hM' := hM
        obtain ⟨ys, q, dp, seen, many, x4, x5, x6, rfl, rfl, w⟩ := hM
        have e2 : cmp2 gNeL (st ++ [Cl.l (stkE ys ++ [.tuple [q, .int (dp : Int)]]), .m (seenD seen)]) (.c st.length) (.d (.list [])) = some true := by
          rw [cmp2_of (a := .list (stkE ys ++ [.tuple [q, .int (dp : Int)]])) (b := .list []) (by simp) rfl, gNeL_e]; simp
        simp [e2]
        exact ⟨hk, hM'⟩
    · rintro k ρ s ⟨ys, q, dp, seen, many, x4, x5, x6, rfl, rfl, w⟩
      obtain ⟨hq, hq50, hdp⟩ := w.all (q, dp) (by simp)
      simp only at hq hq50 hdp
      have hmm := w.hm
      have hsz := w.sz
      have hsl := w.sl
      -- part, depth = waiting.pop()
      refine seq_cut (fun ρ s => ρ = [some (.d d), some (.c st.length), some (.c (st.length + 1)), some (.d (.int (many : Int))), some (.d q), some (.d (.int (dp : Int))), x6] ∧ s = st ++ [.l (stkE ys), .m (seenD seen)]) ?_ ?_
      · simp
      rintro ρ s ⟨rfl, rfl⟩
      refine seq_cut (fun ρ s => ρ = [some (.d d), some (.c st.length), some (.c (st.length + 1)), some (.d (.int (many + 1 : Nat))), some (.d q), some (.d (.int (dp : Int))), x6] ∧ s = st ++ [.l (stkE ys), .m (seenD seen)]) ?_ ?_
      · simp
      rintro ρ s ⟨rfl, rfl⟩
      refine seq_cut (fun ρ s => (ρ = [some (.d d), some (.c st.length), some (.c (st.length + 1)), some (.d (.int (many + 1 : Nat))), some (.d q), some (.d (.int (dp : Int))), x6] ∧ s = st ++ [.l (stkE ys), .m (seenD seen)]) ∧ ¬ 40 < many + 1 ∧ ¬ 20 < dp ∧ hfB q = true) ?_ ?_
      · by_cases c1 : (40 : Int) < (many : Int) + 1
        · have := w.bad (.inl (by omega))
          rw [this] at h
          simp [c1]
          exact h _
        · by_cases c2 : (20 : Int) < (dp : Int)
          · have := w.bad (.inr (.inl (by omega)))
            rw [this] at h
            simp [c1, c2]
            exact h _
          · simp [c1, c2]
            refine w_has_formD hq ?_
            cases c3 : hfB q with
            | true => simp; omega
            | false =>
              have := w.bad (.inr (.inr c3))
              rw [this] at h
              simp
              exact h _
      rintro ρ s ⟨⟨rfl, rfl⟩, n1, n2, hf⟩
      have hlen : (stkE ys).length ≤ 200 := by
        rw [List.length_append] at hsl
        unfold stkE; rw [List.length_map]; simp at hsl; omega
      have hil := innD_len hf
      -- the last step, by what seen is then
      have fin : ∀ seen' : List Str, (match labD q with
          | some l => l ∉ seen ∧ seen' = seen ++ [l]
          | none => seen' = seen) →
          WSe noE ((sExp (mExt (mN 1) (mLc (iOf (mCall semP_inner (aCons (mV (mN 4)) aNil))) (gNm 6) ttY (mTup (aCons (mV (mN 6)) (aCons (mV (mBin fAdd (mN 5) (mK (.int 1)))) aNil))) [6])))
            [some (.d d), some (.c st.length), some (.c (st.length + 1)), some (.d (.int (many + 1 : Nat))), some (.d q), some (.d (.int (dp : Int))), x6] (st ++ [.l (stkE ys), .m (seenD seen')]))
            (IipD (fun xs => .m (seenD xs)) d st k) (fun ρ s => (∃ t, s = st ++ t) ∧ ipD d = true) (IipD (fun xs => .m (seenD xs)) d st k) P := by
        intro seen' hs
        simp
        refine w_innerD hq hf ?_
        simp
        refine lc_map (fun d => .tuple [d, .int ((dp + 1 : Nat) : Int)]) (fun d hd => ?_) (by rw [szl]; omega) ?_
        · simp [wipeE, szl]
        · have e3 : ((innD q).map fun d => PyData.tuple [d, .int ((dp + 1 : Nat) : Int)]) = stkE ((innD q).map fun x => (x, dp + 1)) := by
            unfold stkE
            rw [List.map_map]; rfl
          rw [e3]
          have hl2 : (stkE ys).length + (stkE ((innD q).map fun x => (x, dp + 1))).length ≤ sizeLine := by
            rw [szl]; unfold stkE at hlen ⊢; rw [List.length_map, List.length_map, List.length_map]; rw [List.length_map] at hlen; omega
          simp [fExt, itemsD, hl2]
          exact ⟨ys ++ (innD q).map fun x => (x, dp + 1), seen', many + 1, _, _, _, rfl, by rw [stkE_app], w.next hf n2 n1 hs⟩
      rcases hf_call hf with ⟨l, r, rfl, hl⟩ | ⟨kk, n, r, rfl, hkk, hl⟩
      · have e4 := cmp2_of (st := st ++ [Cl.l (stkE ys), .m (seenD seen)]) (g := gInD false) (x := .d (.str l)) (y := .c (st.length + 1)) (a := .str l) (b := .dict (seenD seen)) rfl (by
            have hg : isGone (.m (seenD seen)) = false := ok_notGone (seen_ok l seen)
            simp [hg])
        rw [gInD_d, if_pos (seen_ok l seen)] at e4
        by_cases hm : l ∈ seen
        · have := w.twice hl hm
          rw [this] at h
          rw [seen_some l seen hm] at e4
          refine seq_cut (fun _ _ => False) ?_ (fun _ _ z => z.elim)
          simp [e4]
          exact h _
        · rw [seen_look l seen hm] at e4
          refine seq_cut (fun ρ s => ρ = [some (.d d), some (.c st.length), some (.c (st.length + 1)), some (.d (.int (many + 1 : Nat))), some (.d (.tuple (.str (Str.ofString "call") :: .str l :: r))), some (.d (.int (dp : Int))), x6] ∧ s = st ++ [.l (stkE ys), .m (seenD (seen ++ [l]))]) ?_ ?_
          · have hsl' : seen.length < 16777216 := by omega
            simp [e4, seen_ok, seen_len, szl, hsl', seen_put l seen hm]
          rintro ρ s ⟨rfl, rfl⟩
          exact fin (seen ++ [l]) (by rw [hl]; exact ⟨hm, rfl⟩)
      · refine seq_cut (fun ρ s => ρ = [some (.d d), some (.c st.length), some (.c (st.length + 1)), some (.d (.int (many + 1 : Nat))), some (.d (.tuple (.str kk :: n :: r))), some (.d (.int (dp : Int))), x6] ∧ s = st ++ [.l (stkE ys), .m (seenD seen)]) ?_ ?_
        · have hko : okS (.str kk) := (hq.mem (d := .str kk) (by simp)).1.ok
          simp [gEq_strs hko, hkk]
        rintro ρ s ⟨rfl, rfl⟩
        exact fin seen (by rw [hl])
  · rintro ρ s ⟨⟨t, rfl⟩, e⟩
    rw [e] at h
    simp
    exact h t
end
end Cp
/-! Px3: the law's own look at data of any kind says what is_policy says. -/
namespace Cp
open PySem L2
end Cp
/-! Px4: the law's own look at data of any kind, on. -/
namespace Cp
open PySem L2
section
variable {st : Sto} {P : Rv → Sto → Prop} {E : Er → Sto → Prop}
/-! ### the shape -/
theorem sizK_cases {k : Str} {i : Int} (h : sizK.lookup k = some i) : (k, i) ∈ sizK := PySem.mem_of_lookup h
theorem hfT_then {k : Str} {ds : List PyData} (h : sizK.lookup k = some (ds.length : Int)) (hk : k = Str.ofString "then" ∨ k = Str.ofString "both") : hfT k ds = true := by
  unfold hfT
  rw [h]
  rcases hk with rfl | rfl
  · have a1 : (Str.ofString "then" = Str.ofString "call") = False := by simp
    have a2 : (Str.ofString "then" ∈ nbrK) = False := by simp [nbrK]
    simp [a1, a2]
  · have a1 : (Str.ofString "both" = Str.ofString "call") = False := by simp
    have a2 : (Str.ofString "both" ∈ nbrK) = False := by simp [nbrK]
    simp [a1, a2]
end
end Cp
/-! Px5: the law's own look at data of any kind: the loop. -/
namespace Cp
open PySem L2
section
variable {st : Sto} {P : Rv → Sto → Prop} {E : Er → Sto → Prop}
theorem ln1 {r : List PyData} (h : (r.length : Int) + 1 = 2) : ∃ a, r = [a] := by
  match r, (by omega : r.length = 1) with
  | [a], _ => exact ⟨a, rfl⟩
theorem ln2 {r : List PyData} (h : (r.length : Int) + 1 = 3) : ∃ a b, r = [a, b] := by
  match r, (by omega : r.length = 2) with
  | [a, b], _ => exact ⟨a, b, rfl⟩
theorem ln3 {r : List PyData} (h : (r.length : Int) + 1 = 4) : ∃ a b c, r = [a, b, c] := by
  match r, (by omega : r.length = 3) with
  | [a, b, c], _ => exact ⟨a, b, c, rfl⟩
theorem ln4 {r : List PyData} (h : (r.length : Int) + 1 = 5) : ∃ a b c d, r = [a, b, c, d] := by
  match r, (by omega : r.length = 4) with
  | [a, b, c, d], _ => exact ⟨a, b, c, d, rfl⟩
theorem w_linnerD {d : PyData} (hf : hfB d = true) (h : P (.d (.tuple (innD d))) st) : WVe E (semP_linner [.d d] st) P := by
  unfold semP_linner sbP_linner
  rw [W_body]
  unfold hfB at hf
  split at hf
  · rename_i k r
    unfold hfT at hf
    rw [Bool.and_eq_true] at hf
    have h2 := of_decide_eq_true hf.1
    have hm := sizK_cases h2
    simp [sizK] at hm
    simp only [innD] at h
    have z1 : (Str.ofString "call" = Str.ofString "wait") = False := by simp
    rcases hm with ⟨rfl, hl⟩ | ⟨rfl, hl⟩ | ⟨rfl, hl⟩ | ⟨rfl, hl⟩ | ⟨rfl, hl⟩ | ⟨rfl, hl⟩ | ⟨rfl, hl⟩ | ⟨rfl, hl⟩ | ⟨rfl, hl⟩
    · obtain ⟨a, b, c, d, rfl⟩ := ln4 hl
      simp [keysD, keyD, lookK, keyB] at h ⊢; exact h
    · obtain ⟨a, rfl⟩ := ln1 hl
      simp [keysD, keyD, lookK, keyB] at h ⊢; exact h
    · obtain ⟨a, b, rfl⟩ := ln2 hl
      simp [keysD, keyD, lookK, keyB, cut3n] at h ⊢; exact h
    · obtain ⟨a, b, c, rfl⟩ := ln3 hl
      simp [keysD, keyD, lookK, keyB, cut4n] at h ⊢; exact h
    · obtain ⟨a, b, rfl⟩ := ln2 hl
      simp [keysD, keyD, lookK, keyB, cut3] at h ⊢; exact h
    · obtain ⟨a, b, rfl⟩ := ln2 hl
      simp [keysD, keyD, lookK, keyB, cut3] at h ⊢; exact h
    · obtain ⟨a, b, c, rfl⟩ := ln3 hl
      simp [keysD, keyD, lookK, keyB, cut4n] at h ⊢; exact h
    · obtain ⟨a, b, c, rfl⟩ := ln3 hl
      simp [keysD, keyD, lookK, keyB, cut4n] at h ⊢; exact h
    · obtain ⟨a, b, rfl⟩ := ln2 hl
      simp [keysD, keyD, lookK, keyB, cut3n] at h ⊢; exact h
  · cases hf
end
end Cp
/-! Px6: policies are policies by the look at data; edits that are refused. -/
namespace Cp
open PySem L2
theorem labB_of {l : Str} (h : IsLab l) : labB (.str l) = true := by
  show (decide (1 ≤ l.length) && decide (l.length ≤ 8) && l.cps.toList.all fun c => decide (c ∈ SIG.cps.toList)) = true
  rw [Bool.and_eq_true, Bool.and_eq_true]
  exact ⟨⟨decide_eq_true h.lo, decide_eq_true h.hi⟩, List.all_eq_true.mpr fun c hc => decide_eq_true (h.sg c hc)⟩
theorem nspB_sp {g : Span} (h : SpOk g) : nspB (spD g) = true := by
  cases g with
  | none => rfl
  | some p =>
    obtain ⟨h0, h1, h2⟩ := h
    show spanB (.tuple [.int p.1, .int p.2]) = true
    simp [spanB, numB]; omega
theorem isNo_sp (g : Span) : isNo (spD g) = decide (g = none) := by cases g <;> rfl
theorem nuB_of {n : Option Int} (h : NuOk n) : (isNo (nuD n) || numB (nuD n)) = true := by
  cases n with
  | none => rfl
  | some n =>
    have h : 0 ≤ n ∧ n ≤ 1000000000 := h
    simp [nuD, isNo, numB]; omega
theorem hf_pol : ∀ {p : Pol}, p.All Pol.Node → hfB p.pd = true
  | .call l g b h, hn => by
    obtain ⟨h1, h2, h3, h4⟩ := hn
    have e : hfB (Pol.call l g b h).pd = callB (.str l) (spD g) (spD b) (.bool h) := by
      show hfT _ _ = _
      unfold hfT
      have : sizK.lookup (Str.ofString "call") = some 5 := by decide +kernel
      rw [this]
      simp
    rw [e]
    unfold callB cbX
    rw [labB_of h1, nspB_sp h2, nspB_sp h3, isNo_sp, isNo_sp]
    rcases h4 with rfl | h4 | h4 <;> simp [*]
  | .wait n, hn => by
    have hn : 0 ≤ n ∧ n ≤ 1000000000 := hn
    show hfT _ _ = _
    unfold hfT
    have : sizK.lookup (Str.ofString "wait") = some 2 := by decide +kernel
    rw [this]
    have h1 : (Str.ofString "wait" ∈ nbrK) = True := by simp [nbrK]
    simp [h1, numfB, numB]
    omega
  | .two k a b, hn => by
    cases k with
    | thn => exact hfT_then (k := Str.ofString "then") (by show sizK.lookup (Str.ofString "then") = some 3; decide +kernel) (.inl rfl)
    | both => exact hfT_then (k := Str.ofString "both") (by show sizK.lookup (Str.ofString "both") = some 3; decide +kernel) (.inr rfl)
  | .num k n a b, hn => by
    have h1 := nuB_of hn.1
    have key : ∀ z : Str, sizK.lookup z = some 4 → z ∈ nbrK → z ≠ Str.ofString "call" → z ≠ Str.ofString "wait" → z ≠ Str.ofString "retry" → hfT z [.str z, nuD n, a.pd, b.pd] = true := fun z e1 e2 e3 e4 e5 => by
      unfold hfT
      rw [e1, if_neg e3, if_pos e2]
      show (true && numfB z (nuD n)) = true
      unfold numfB
      rw [if_neg e4, if_neg e5, h1]; rfl
    cases k with
    | fall => exact key (Str.ofString "fallback") (by decide +kernel) (by simp [nbrK]) (by simp) (by simp) (by simp)
    | race => exact key (Str.ofString "race") (by decide +kernel) (by simp [nbrK]) (by simp) (by simp) (by simp)
    | hedge => exact key (Str.ofString "hedge") (by decide +kernel) (by simp [nbrK]) (by simp) (by simp) (by simp)
  | .retry ps a, hn => by
    obtain ⟨⟨h1, h2⟩, _⟩ := hn
    show hfT _ _ = _
    unfold hfT
    have : sizK.lookup (Str.ofString "retry") = some 3 := by decide +kernel
    rw [this]
    have h3 : (Str.ofString "retry" ∈ nbrK) = True := by simp [nbrK]
    simp [h3, numfB, h1]
    intro x hx
    have := h2 x hx
    simp [numB]; omega
  | .tmo n a, hn => by
    have h1 := nuB_of hn.1
    show hfT _ _ = _
    unfold hfT
    have : sizK.lookup (Str.ofString "timeout") = some 3 := by decide +kernel
    rw [this]
    have h3 : (Str.ofString "timeout" ∈ nbrK) = True := by simp [nbrK]
    simp [h3, numfB]
    simpa using h1
theorem innD_pol (p : Pol) : innD p.pd = p.inn.map Pol.pd := by
  cases p with
  | call l g b h => simp [Pol.pd, innD, Pol.inn]
  | wait n => simp [Pol.pd, innD, Pol.inn]
  | two k a b => cases k <;> simp [Pol.pd, innD, Pol.inn, Two.s]
  | num k n a b => cases k <;> simp [Pol.pd, innD, Pol.inn, Num.s]
  | retry ps a => simp [Pol.pd, innD, Pol.inn]
  | tmo n a => simp [Pol.pd, innD, Pol.inn]
theorem labD_pol (p : Pol) : labD p.pd = (match p with
    | .call l _ _ _ => some l
    | _ => none) := by
  cases p with
  | call l g b h => simp [Pol.pd, labD]
  | wait n => simp [Pol.pd, labD]
  | two k a b => obtain ⟨r, hr⟩ := inn_pd a; cases k <;> simp [Pol.pd, labD, Two.s, hr]
  | num k n a b => cases k <;> cases n <;> simp [Pol.pd, labD, Num.s, nuD]
  | retry ps a => simp [Pol.pd, labD]
  | tmo n a => cases n <;> simp [Pol.pd, labD, nuD]
def stkP (s : Stk) : StkE := s.map fun x => (x.1.pd, x.2)
theorem ipGo_pol : ∀ (f : Nat) (s : Stk) (seen : List Str) (many : Nat), stkS s < f → many + stkS s ≤ 40 → (∀ x ∈ s, x.1.All Pol.Node ∧ x.2 + x.1.depth ≤ 21) → ((s.flatMap fun x => x.1.labs) ++ seen).Nodup → ipGo f (stkP s) seen many = true
  | 0, s, seen, many, hf, _, _, _ => absurd hf (Nat.not_lt_zero _)
  | f + 1, s, seen, many, hf, hm, ha, hd => by
    rcases List.eq_nil_or_concat s with e | ⟨ys, y, e⟩
    · subst e; exact ipGo_nil f seen many
    · rw [List.concat_eq_append] at e
      subst e
      obtain ⟨q, dp⟩ := y
      obtain ⟨hq, hdp⟩ := ha (q, dp) (by simp)
      simp only at hq hdp
      have hq1 := dp_pos q
      have hqs := Pol.size_pos q
      have hsum : stkS (ys ++ [(q, dp)]) = stkS ys + q.size := by rw [stkS_app]; simp [stkS]
      have eD : stkP (ys ++ [(q, dp)]) = stkP ys ++ [(q.pd, dp)] := by unfold stkP; rw [List.map_append]; rfl
      have hin := inn_size q (dp + 1)
      rw [eD, ipGo_snoc, if_neg (by rw [hf_pol hq]; simp; omega), labD_pol]
      have eN : stkP ys ++ (innD q.pd).map (fun x => (x, dp + 1)) = stkP (ys ++ innS q (dp + 1)) := by
        rw [innD_pol]; unfold stkP innS; rw [List.map_append, List.map_map, List.map_map]; rfl
      rw [eN]
      have nx : ∀ seen' : List Str, (((ys ++ innS q (dp + 1)).flatMap fun x => x.1.labs) ++ seen').Nodup → ipGo f (stkP (ys ++ innS q (dp + 1))) seen' (many + 1) = true := fun seen' hn =>
        ipGo_pol f (ys ++ innS q (dp + 1)) seen' (many + 1) (by rw [stkS_app]; omega) (by rw [stkS_app]; omega) (fun x hx => by
          rcases List.mem_append.mp hx with hx | hx
          · exact ha x (List.mem_append_left _ hx)
          · unfold innS at hx
            obtain ⟨o, ho, rfl⟩ := List.mem_map.mp hx
            have := inn_dp ho
            exact ⟨hq.inn ho, by show dp + 1 + o.depth ≤ 21; omega⟩) hn
      have hnd1 : (ys.flatMap (fun x => x.1.labs) ++ q.labs ++ seen).Nodup := by
        rw [List.flatMap_append] at hd
        simpa using hd
      by_cases hc : q.kind = "call"
      · obtain ⟨l, g, b, hh, rfl⟩ : ∃ l g b hh, q = .call l g b hh := by
          cases q with
          | call l g b hh => exact ⟨l, g, b, hh, rfl⟩
          | two k _ _ => cases k <;> simp [Pol.kind, Two.s] at hc
          | num k _ _ _ => cases k <;> simp [Pol.kind, Num.s] at hc
          | _ => simp [Pol.kind] at hc
        have hnl : l ∉ seen := by
          have := (List.nodup_append.mp hnd1).2.2 l (by simp [Pol.labs])
          exact fun hm => this l hm rfl
        simp only [if_neg hnl]
        refine nx _ ?_
        rw [List.flatMap_append]
        have e5 : ((innS (Pol.call l g b hh) (dp + 1)).flatMap fun x => x.1.labs) = [] := rfl
        rw [e5, List.append_nil]
        have hp : ((ys.flatMap fun x => x.1.labs) ++ (seen ++ [l])).Perm (ys.flatMap (fun x => x.1.labs) ++ (Pol.call l g b hh).labs ++ seen) := by
          rw [List.append_assoc]
          exact List.Perm.append_left _ List.perm_append_comm
        exact hp.nodup_iff.mpr hnd1
      · have e6 : (match q with
          | .call l _ _ _ => some l
          | _ => none) = (none : Option Str) := by
          cases q with
          | call l g b hh => exact absurd rfl hc
          | _ => rfl
        rw [e6]
        refine nx _ ?_
        rw [List.flatMap_append, inn_labs q (dp + 1) hc]
        exact hnd1
theorem ipD_pol {p : Pol} (h : p.Valid) : ipD p.pd = true := by
  have := ipGo_pol 42 [(p, 1)] [] 0 (by have := h.sz; simp [stkS]; omega) (by have := h.sz; simpa [stkS] using this) (fun x hx => by
    rw [List.mem_singleton] at hx; subst hx; exact ⟨h.nd, by have := h.dp; show 1 + p.depth ≤ 21; omega⟩) (by simpa using h.lb)
  exact this
/-! ### a part put, its measures -/
theorem sizAll_app (a b : List PyData) : sizAll (a ++ b) = sizAll a + sizAll b := by
  induction a with
  | nil => simp [sizAll]
  | cons x a ih => simp only [List.cons_append, sizAll]; omega
theorem depthAll_app (a b : List PyData) : PyData.depthAll (a ++ b) = max (PyData.depthAll a) (PyData.depthAll b) := by
  induction a with
  | nil => simp [PyData.depthAll]
  | cons x a ih => simp only [List.cons_append, PyData.depthAll]; omega
theorem sizAll_set : ∀ {l : List PyData} {i : Nat} {a : PyData} (y : PyData), l[i]? = some a → sizAll (l.set i y) + siz a = sizAll l + siz y
  | [], _, _, _, h => by cases h
  | x :: l, 0, a, y, h => by
    cases h
    simp only [List.set_cons_zero, sizAll]; omega
  | x :: l, i + 1, a, y, h => by
    have := sizAll_set (l := l) (i := i) y h
    simp only [List.set_cons_succ, sizAll]; omega
theorem depthAll_set : ∀ (l : List PyData) (i : Nat) (y : PyData), PyData.depthAll (l.set i y) ≤ max (PyData.depthAll l) y.depth
  | [], _, _ => by simp [PyData.depthAll]
  | x :: l, 0, y => by simp only [List.set_cons_zero, PyData.depthAll]; omega
  | x :: l, i + 1, y => by
    have := depthAll_set l i y
    simp only [List.set_cons_succ, PyData.depthAll]; omega
theorem okEs_set {l : List PyData} (i : Nat) {y : PyData} (h : okEs l) (hy : okE y) : okEs (l.set i y) :=
  okEs_all fun d hd => by
    rcases List.mem_or_eq_of_mem_set hd with hd | rfl
    · exact okEs_mem h d hd
    · exact hy
theorem okEs_app {a b : List PyData} (ha : okEs a) (hb : okEs b) : okEs (a ++ b) :=
  okEs_all fun d hd => (List.mem_append.mp hd).elim (okEs_mem ha d) (okEs_mem hb d)
theorem putX_all : ∀ (q : List Nat) {p r : Pol} {x : PyData}, p.at q = some r → p.All Pol.Node → okE x →
    okE (p.putX q x) ∧ siz (p.putX q x) ≤ siz p.pd + siz x ∧ (p.putX q x).depth ≤ p.pd.depth + x.depth
  | [], p, r, x, _, _, hx => by
    have e : p.putX [] x = x := by cases p <;> rfl
    rw [e]
    exact ⟨hx, by omega, by omega⟩
  | i :: q, p, r, x, h, hn, hx => by
    have ha2 : (match p.inn[i]? with | some r => r.at q | none => none) = some r := h
    cases q1 : p.inn[i]? with
    | none => rw [q1] at ha2; cases ha2
    | some o =>
      rw [q1] at ha2
      have hm : o ∈ p.inn := List.mem_of_getElem? q1
      obtain ⟨h1, h2, h3⟩ := putX_all q ha2 (hn.inn hm) hx
      have this : p.putX (i :: q) x = .tuple (p.hd ++ (p.inn.map Pol.pd).set i (o.putX q x)) := by
        show PyData.tuple (p.hd ++ (p.inn.map Pol.pd).set i (match p.inn[i]? with | some r => r.putX q x | none => .none)) = _
        rw [q1]
      have hok : okE p.pd := okE_of (Pol.okS hn)
      rw [this]
      rw [pd_hd] at hok ⊢
      have hok : okEs (p.hd ++ p.inn.map Pol.pd) := hok
      have hi : (p.inn.map Pol.pd)[i]? = some o.pd := by rw [List.getElem?_map, q1]; rfl
      refine ⟨okEs_app (okEs_all fun d hd => okEs_mem hok d (List.mem_append_left _ hd)) (okEs_set i (okEs_all fun d hd => okEs_mem hok d (List.mem_append_right _ hd)) h1), ?_, ?_⟩
      · show sizAll (p.hd ++ (p.inn.map Pol.pd).set i (o.putX q x)) + 3 ≤ sizAll (p.hd ++ p.inn.map Pol.pd) + 3 + siz x
        rw [sizAll_app, sizAll_app]
        have := sizAll_set (o.putX q x) hi
        omega
      · show PyData.depthAll (p.hd ++ (p.inn.map Pol.pd).set i (o.putX q x)) + 1 ≤ PyData.depthAll (p.hd ++ p.inn.map Pol.pd) + 1 + x.depth
        rw [depthAll_app, depthAll_app]
        have h4 := depthAll_set (p.inn.map Pol.pd) i (o.putX q x)
        have h5 : o.pd.depth ≤ PyData.depthAll (p.inn.map Pol.pd) := depthAll_mem (List.mem_of_getElem? hi)
        omega
section
variable {st : Sto} {P : Rv → Sto → Prop} {E : Er → Sto → Prop}
theorem w_check_policyD {d : PyData} (hd : Od d) (h55 : d.depth ≤ 58) (h : ipD d = true → P (.d .none) st) (he : ipD d = false → E ⟨Str.ofString "InvalidPolicy", some (Str.ofString "value", d)⟩ st) : WVe E (semX_check_policy [.d d] st) P := by
  unfold semX_check_policy sbX_check_policy
  rw [W_body]
  simp
  refine wv_E (w_is_policyD hd h55 fun t => ?_)
  simp
  cases e : ipD d with
  | true => simp; exact h e
  | false => simp; simpa using he e
theorem w_replacedD {p r : Pol} {q : List Nat} {x : PyData} (ha : p.at q = some r) (hq : q.length < 25) (hd : Od (p.putX q x)) (h55 : (p.putX q x).depth ≤ 58)
    (h : ipD (p.putX q x) = true → P (.d (p.putX q x)) st) (he : ipD (p.putX q x) = false → E ⟨Str.ofString "InvalidPolicy", some (Str.ofString "value", p.putX q x)⟩ st) : WVe E (semX_replaced [.d p.pd, .d (paD q), .d x] st) P := by
  unfold semX_replaced sbX_replaced
  rw [W_body]
  simp
  refine w_check_part _ (qpath_paD q) (fun _ _ => ?_) (fun e => by rw [path_at ha] at e; cases e)
  simp
  refine wv_E (w_put_at 25 hq ha fun t => ?_)
  simp
  refine w_check_policyD hd h55 (fun e => ?_) (fun e => ?_)
  · simp
    exact h e
  · simpa using he e
end
end Cp
/-! Py1: k01's own look at the form of a policy. -/
namespace Cp
open PySem L2
noncomputable def sbY_is_count : Sv := (sRet (eAnd (mIsi "int" (mN 0)) (eAnd (eNot (mIsi "bool" (mN 0))) (bV (mChn (gI fun i j => decide (i ≤ j)) (gI fun i j => decide (i ≤ j)) (mK (.int 0)) (mN 0) (mN 1))))))
noncomputable def semY_is_count : Fs := bodyF 2 2 sbY_is_count
noncomputable def sbY_is_mark : Sv := (sSeq (sAsg (gNm 1) (mV (mK (.str "abcdefghijklmnopqrstuvwxyz0123456789")))) (sRet (eAnd (mIsi "str" (mN 0)) (eAnd (bV (mChn (gI fun i j => decide (i < j)) (gI fun i j => decide (i < j)) (mK (.int 0)) (mCal (gLen) (aCons (mV (mN 0)) aNil)) (mK (.int 9)))) (mCal (g1 fAll) (aCons (mV (mLc (iOf (mN 0)) (gNm 2) ttY (bV (mCmp (gInS false) (mN 2) (mN 1))) [2])) aNil))))))
noncomputable def semY_is_mark : Fs := bodyF 3 1 sbY_is_mark
noncomputable def sbY_is_stretch : Sv := (sSeq (sIf (mCmp gIsN (mN 0) (mK .none)) (sRet (mK (.bool true))) sNil) (sSeq (sIf (bOr (bNot (mTru (mIsi "tuple" (mN 0)))) (bOr (mCmp gNe (mCal (gLen) (aCons (mV (mN 0)) aNil)) (mK (.int 2))) (bNot (mTru (mCal (g1 fAll) (aCons (mV (mLc (iOf (mN 0)) (gNm 1) ttY (mCall semY_is_count (aCons (mV (mN 1)) (aCons (mV (mBin (fI pPow fun i j => i ^ j.toNat) (mK (.int 10)) (mK (.int 9)))) aNil))) [1])) aNil)))))) (sRet (mK (.bool false))) sNil) (sRet (bV (mCmp (gI fun i j => decide (i ≤ j)) (mBin fIx (mN 0) (mK (.int 0))) (mBin fIx (mN 0) (mK (.int 1))))))))
noncomputable def semY_is_stretch : Fs := bodyF 2 1 sbY_is_stretch
noncomputable def sbY_has_form : Sv := (sSeq (sAsg (gNm 1) (mVc (mDct [((mK (.str "call")), (mK (.int 5))), ((mK (.str "wait")), (mK (.int 2))), ((mK (.str "then")), (mK (.int 3))), ((mK (.str "fallback")), (mK (.int 4))), ((mK (.str "retry")), (mK (.int 3))), ((mK (.str "timeout")), (mK (.int 3))), ((mK (.str "race")), (mK (.int 4))), ((mK (.str "both")), (mK (.int 3)))]))) (sSeq (sDput (mN 1) (mK (.str "hedge")) (mK (.int 4))) (sSeq (sIf (bOr (bNot (mTru (mIsi "tuple" (mN 0)))) (bOr (mCmp (gI fun i j => decide (i < j)) (mCal (gLen) (aCons (mV (mN 0)) aNil)) (mK (.int 2))) (bNot (mTru (mIsi "str" (mBin fIx (mN 0) (mK (.int 0)))))))) (sRet (mK (.bool false))) sNil) (sSeq (sIf (mCmp gNe (mDGet2 (mN 1) (mBin fIx (mN 0) (mK (.int 0))) (mK (.int 0))) (mCal (gLen) (aCons (mV (mN 0)) aNil))) (sRet (mK (.bool false))) sNil) (sSeq (sIf (mCmp gEq (mBin fIx (mN 0) (mK (.int 0))) (mK (.str "call"))) (sSeq (sIf (bOr (bNot (mTru (mCall semY_is_mark (aCons (mV (mBin fIx (mN 0) (mK (.int 1)))) aNil)))) (bNot (mTru (mIsi "bool" (mBin fIx (mN 0) (mK (.int 4))))))) (sRet (mK (.bool false))) sNil) (sSeq (sIf (bOr (bNot (mTru (mCall semY_is_stretch (aCons (mV (mBin fIx (mN 0) (mK (.int 2)))) aNil)))) (bNot (mTru (mCall semY_is_stretch (aCons (mV (mBin fIx (mN 0) (mK (.int 3)))) aNil))))) (sRet (mK (.bool false))) sNil) (sRet (eOr (mBin fIx (mN 0) (mK (.int 4))) (eOr (bV (mCmp gNotN (mBin fIx (mN 0) (mK (.int 2))) (mK .none))) (bV (mCmp gNotN (mBin fIx (mN 0) (mK (.int 3))) (mK .none)))))))) sNil) (sSeq (sIf (mCmp gEq (mBin fIx (mN 0) (mK (.int 0))) (mK (.str "wait"))) (sRet (mCall semY_is_count (aCons (mV (mBin fIx (mN 0) (mK (.int 1)))) (aCons (mV (mBin (fI pPow fun i j => i ^ j.toNat) (mK (.int 10)) (mK (.int 9)))) aNil)))) sNil) (sSeq (sIf (mCmp gEq (mBin fIx (mN 0) (mK (.int 0))) (mK (.str "retry"))) (sSeq (sIf (bOr (bNot (mTru (mIsi "tuple" (mBin fIx (mN 0) (mK (.int 1)))))) (mCmp (gI fun i j => decide (j < i)) (mCal (gLen) (aCons (mV (mBin fIx (mN 0) (mK (.int 1)))) aNil)) (mK (.int 5)))) (sRet (mK (.bool false))) sNil) (sRet (mCal (g1 fAll) (aCons (mV (mLc (iOf (mBin fIx (mN 0) (mK (.int 1)))) (gNm 2) ttY (mCall semY_is_count (aCons (mV (mN 2)) (aCons (mV (mBin (fI pPow fun i j => i ^ j.toNat) (mK (.int 10)) (mK (.int 9)))) aNil))) [2])) aNil)))) sNil) (sRet (eOr (bV (mCmp (gIn false) (mBin fIx (mN 0) (mK (.int 0))) (mTup (aCons (mV (mK (.str "then"))) (aCons (mV (mK (.str "both"))) aNil))))) (eOr (bV (mCmp gIsN (mBin fIx (mN 0) (mK (.int 1))) (mK .none))) (mCall semY_is_count (aCons (mV (mBin fIx (mN 0) (mK (.int 1)))) (aCons (mV (mBin (fI pPow fun i j => i ^ j.toNat) (mK (.int 10)) (mK (.int 9)))) aNil)))))))))))))
noncomputable def semY_has_form : Fs := bodyF 3 1 sbY_has_form
noncomputable def sbY_is_plan : Sv := (sSeq (sPar [1, 2, 3] (aCons (mV (mLst (aCons (mV (mN 0)) aNil))) (aCons (mV (mK (.int 0))) (aCons (mVc (mLst aNil)) aNil)))) (sSeq (sFor (iRg1 (aCons (mV (mK (.int 21))) aNil)) (gNm 4) (sSeq (sAsg (gNm 2) (mV (mBin fAdd (mN 2) (mCal (gLen) (aCons (mV (mN 1)) aNil))))) (sSeq (sIf (bOr (mCmp (gI fun i j => decide (j < i)) (mN 2) (mK (.int 40))) (bAnd (mCmp gEq (mN 4) (mK (.int 20))) (mCmp gNeL (mN 1) (mLst aNil)))) (sRet (mK (.bool false))) sNil) (sSeq (sAsg (gNm 5) (mVc (mLst aNil))) (sSeq (sFor (iOf (mN 1)) (gNm 6) (sSeq (sIf (bNot (mTru (mCall semY_has_form (aCons (mV (mN 6)) aNil)))) (sRet (mK (.bool false))) sNil) (sSeq (sExp (mExt (mN 3) (mBin fMulA (mLst (aCons (mV (mBin fIx (mN 6) (mK (.int 1)))) aNil)) (mCal (g1 fInt) (aCons (mV (bV (mCmp gEq (mBin fIx (mN 6) (mK (.int 0))) (mK (.str "call"))))) aNil))))) (sExp (mExt (mN 5) (mCal (g1 fList) (aCons (mV (mCall semP_linner (aCons (mV (mN 6)) aNil))) aNil))))))) (sAsg (gNm 1) (mV (mN 5)))))))) (sRet (bV (mCmp gEq (mLoS (mN 3)) (mCal (gLen) (aCons (mV (mN 3)) aNil)))))))
noncomputable def semY_is_plan : Fs := bodyF 7 1 sbY_is_plan
noncomputable def sbY_bent (sem : Fs) : Sv := (sSeq (sIf (bAnd (mTru (mIsi "tuple" (mN 1))) (bAnd (mCmp gNeT (mN 1) (mTup aNil)) (mCmp (gI fun i j => decide (j < i)) (mCall semU_next (aCons (mVc (mN 0)) (aCons (mV (mK (.int 6))) aNil))) (mK (.int 0))))) (sSeq (sPar [2, 3] (aCons (mV (mCall semU_next (aCons (mVc (mN 0)) (aCons (mV (mCal (gLen) (aCons (mV (mN 1)) aNil))) aNil)))) (aCons (mV (mCall semU_next (aCons (mVc (mN 0)) (aCons (mV (mK (.int 9))) aNil)))) aNil))) (sSeq (sIf (mCmp gEq (mN 3) (mK (.int 0))) (sRet (mBin fAdd (mSl (mN 1) oNone (oSome (mN 2))) (mSl (mN 1) (oSome (mBin fAddB (mN 2) (mK (.int 1)))) oNone))) sNil) (sSeq (sIf (mCmp gEq (mN 3) (mK (.int 1))) (sRet (mBin fAdd (mBin fAdd (mSl (mN 1) oNone (oSome (mN 2))) (mSl (mN 1) (oSome (mN 2)) (oSome (mBin fAddB (mN 2) (mK (.int 1)))))) (mSl (mN 1) (oSome (mN 2)) oNone))) sNil) (sSeq (sIf (mCmp gEq (mN 3) (mK (.int 2))) (sRet (mBin fAdd (mSl (mN 1) oNone (oSome (mN 2))) (mTurn (mSl (mN 1) (oSome (mN 2)) oNone)))) sNil) (sRet (mBin fAdd (mBin fAdd (mSl (mN 1) oNone (oSome (mN 2))) (mTup (aCons (mV (mCall sem (aCons (mVc (mN 0)) (aCons (mV (mBin fIx (mN 1) (mN 2))) aNil)))) aNil))) (mSl (mN 1) (oSome (mBin fAddB (mN 2) (mK (.int 1)))) oNone))))))) sNil) (sSeq (sAsg (gNm 4) (mV (mLst (aCons (mV (mK .none)) (aCons (mV (mK (.bool true))) (aCons (mV (mK (.bool false))) (aCons (mV (mK (.int 0))) (aCons (mV (mK (.int 1))) (aCons (mV (mNeg (mK (.int 1)))) (aCons (mV (mBin (fI pPow fun i j => i ^ j.toNat) (mK (.int 10)) (mK (.int 9)))) (aCons (mV (mBin fAdd (mBin (fI pPow fun i j => i ^ j.toNat) (mK (.int 10)) (mK (.int 9))) (mK (.int 1)))) (aCons (mV (mK (.str ""))) (aCons (mV (mK (.str "a"))) (aCons (mV (mK (.str "call"))) (aCons (mV (mK (.str "wait"))) (aCons (mV (mK (.str "race"))) aNil)))))))))))))))) (sSeq (sAsg (gNm 4) (mV (mBin fAdd (mN 4) (mLst (aCons (mV (mK (.str "longlabel"))) (aCons (mV (mTup aNil)) (aCons (mV (mLst aNil)) (aCons (mV mD0) aNil)))))))) (sSeq (sIf (mTru (mIsi "tuple" (mN 1))) (sAsg (gNm 4) (mV (mBin fAdd (mN 4) (mBin fMulA (mLst (aCons (mV (mCal (g1 fList) (aCons (mV (mN 1)) aNil))) (aCons (mV (mBin fAdd (mN 1) (mTup (aCons (mV (mK (.str "a"))) aNil)))) (aCons (mV (mBin fAdd (mN 1) (mN 1))) (aCons (mV (mTup (aCons (mV (mN 1)) aNil))) (aCons (mV (mTup (aCons (mV (mK (.str "wait"))) (aCons (mV (mK (.int 2))) aNil)))) aNil)))))) (mK (.int 2)))))) sNil) (sSeq (sIf (mTru (mIsi "str" (mN 1))) (sAsg (gNm 4) (mV (mBin fAdd (mN 4) (mBin fMulA (mLst (aCons (mV (mBin fAdd (mN 1) (mK (.str "x")))) (aCons (mV (mUpper (mN 1))) (aCons (mV (mBin fAdd (mN 1) (mK (.str " ")))) (aCons (mV (mSl (mN 1) (oSome (mK (.int 1))) oNone)) (aCons (mV (mTup (aCons (mV (mN 1)) aNil))) (aCons (mV (mLst (aCons (mV (mN 1)) aNil))) aNil))))))) (mK (.int 2)))))) sNil) (sSeq (sIf (mTru (mIsi "int" (mN 1))) (sAsg (gNm 4) (mV (mBin fAdd (mN 4) (mBin fMulA (mLst (aCons (mV (mBin fAddB (mN 1) (mK (.int 1)))) (aCons (mV (mBin fSubB (mN 1) (mK (.int 1)))) (aCons (mV (mBin fSubR (mK (.int 0)) (mN 1))) (aCons (mV (bV (mCmp gEq (mN 1) (mK (.int 1))))) (aCons (mV (mCal (g1 fStrB) (aCons (mV (mN 1)) aNil))) aNil)))))) (mK (.int 2)))))) sNil) (sRet (mCall semU_of (aCons (mVc (mN 0)) (aCons (mV (mN 4)) aNil))))))))))
noncomputable def semY_bent : Nat → Fs
  | 0 => fun _ _ => .no
  | n + 1 => bodyF 5 2 (sbY_bent (semY_bent n))
section
variable {st : Sto} {P : Rv → Sto → Prop} {E : Er → Sto → Prop}
theorem w_is_countD {d : PyData} (hq : isQ d = false) (h : P (.d (.bool (numB d))) st) : WVe noE (semY_is_count [.d d, .d (.int 1000000000)] st) P := by
  unfold semY_is_count sbY_is_count
  rw [W_body]
  cases d with
  | int i =>
    simp
    by_cases c1 : 0 ≤ i <;> by_cases c2 : i ≤ 1000000000 <;> simp [c1, c2] <;> simpa [numB, c1, c2] using h
  | dict kvs =>
    simp [hq]
    have : kitB (tyD (.dict kvs)) "int" = some false := kitB_int _
    rw [this]
    exact h
  | bool b => simp; exact h
  | none => simp; exact h
  | str b => simp; exact h
  | tuple b => simp; exact h
  | list b =>
    simp
    have : kitB (tyD (.list b)) "int" = some false := kitB_int _
    rw [this]
    exact h
theorem w_is_markD {d : PyData} (hd : Od d) (h : P (.d (.bool (labB d))) st) : WVe noE (semY_is_mark [.d d] st) P := by
  have hq := hd.nq
  unfold semY_is_mark sbY_is_mark
  rw [W_body]
  cases d with
  | str x =>
    have h3 : 10 * x.length + 2 ≤ 1000000 := hd.sz
    have h5 : x.length ≤ 16777216 := by omega
    simp [szl, h5]
    by_cases c1 : 0 < x.length <;> by_cases c2 : (x.length : Int) < 9 <;> simp [c1, c2]
    · have hsl : (signs x).length ≤ sizeLine := by unfold signs; rw [List.length_map, szl]; exact h5
      have k1 : 1 ≤ x.length := by omega
      have k2 : x.length ≤ 8 := by omega
      refine lc_map (fun d => match d with
        | .str y => .bool (y.cps.toList.all fun c => decide (c ∈ SIG.cps.toList))
        | _ => .bool false) (fun d hd => ?_) hsl ?_
      · unfold signs at hd
        obtain ⟨c, hc, rfl⟩ := List.mem_map.mp hd
        simp [wipeE, gInS, SIG]
      · have e : (signs x).map (fun d => match d with
          | .str y => PyData.bool (y.cps.toList.all fun c => decide (c ∈ SIG.cps.toList))
          | _ => .bool false) = x.cps.toList.map fun c => PyData.bool (decide (c ∈ SIG.cps.toList)) := by
          unfold signs; rw [List.map_map]
          refine List.map_congr_left fun c _ => ?_
          simp
        rw [e, fAll_map]
        simpa [labB, k1, k2] using h
    · have k2 : ¬ x.length ≤ 8 := by omega
      simpa [labB, k2] using h
    · have k1 : ¬ 1 ≤ x.length := by omega
      simpa [labB, k1] using h
    · have k1 : ¬ 1 ≤ x.length := by omega
      simpa [labB, k1] using h
  | dict kvs =>
    have : kitB (tyD (.dict kvs)) "str" = some false := by show kitB "dict" "str" = _; decide +kernel
    simp [hq, this]; exact h
  | int i => simp; exact h
  | bool b =>
    have : kitB "bool" "str" = some false := by decide +kernel
    simp [this]; exact h
  | none => simp; exact h
  | tuple b => simp; exact h
  | list b =>
    have : kitB (tyD (.list b)) "str" = some false := by show kitB "list" "str" = _; decide +kernel
    simp [this]; exact h
theorem w_is_stretchD {d : PyData} (hd : Od d) (h : P (.d (.bool (nspB d))) st) : WVe noE (semY_is_stretch [.d d] st) P := by
  have hq := hd.nq
  have hp : pPow 10 9 = true := by decide
  unfold semY_is_stretch sbY_is_stretch
  rw [W_body]
  cases d with
  | tuple ds =>
    have hl := hd.len
    have hl2 : ds.length ≤ 16777216 := by omega
    have h : P (.d (.bool (spanB (.tuple ds)))) st := h
    simp [szl, hl2, gIsN_is, isNo]
    by_cases c : (ds.length : Int) = 2
    · have c' : ds.length = 2 := by omega
      obtain ⟨a, b, rfl⟩ : ∃ a b, ds = [a, b] := by
        match ds, c' with
        | [a, b], _ => exact ⟨a, b, rfl⟩
      simp
      refine lc_map (fun d => .bool (numB d)) (fun d hd' => ?_) (by simp [szl]) ?_
      · simp [wipeE, hp]
        exact w_is_countD (hd.mem (by simpa using hd')).1.nq (by simp)
      · rw [fAll_map]
        by_cases h1 : numB a = true <;> by_cases h2 : numB b = true
        · obtain ⟨i, rfl⟩ : ∃ i, a = .int i := by cases a <;> first | exact ⟨_, rfl⟩ | cases h1
          obtain ⟨j, rfl⟩ : ∃ j, b = .int j := by cases b <;> first | exact ⟨_, rfl⟩ | cases h2
          have e : spanB (.tuple [.int i, .int j]) = decide (i ≤ j) := by
            show (numB (.int i) && numB (.int j) && decide (i ≤ j)) = _
            rw [h1, h2]; rfl
          rw [e] at h
          simp [h1, h2]
          simpa using h
        · have e : spanB (.tuple [a, b]) = false := by
            unfold spanB; split
            · rename_i i j e; injection e with e; injection e with e1 e2; injection e2 with e2 _; subst e1 e2; simp at h2; rw [h2]; simp
            · rfl
          rw [e] at h
          simp [h1, h2]
          exact h
        · have e : spanB (.tuple [a, b]) = false := by
            unfold spanB; split
            · rename_i i j e; injection e with e; injection e with e1 e2; injection e2 with e2 _; subst e1 e2; simp at h1; rw [h1]; simp
            · rfl
          rw [e] at h
          simp [h1, h2]
          exact h
        · have e : spanB (.tuple [a, b]) = false := by
            unfold spanB; split
            · rename_i i j e; injection e with e; injection e with e1 e2; injection e2 with e2 _; subst e1 e2; simp at h1; rw [h1]; simp
            · rfl
          rw [e] at h
          simp [h1, h2]
          exact h
    · have e : spanB (.tuple ds) = false := by
        unfold spanB; split
        · rename_i i j e; injection e with e; subst e; simp at c
        · rfl
      rw [e] at h
      simp [c]
      exact h
  | dict kvs =>
    have : kitB (tyD (.dict kvs)) "tuple" = some false := by show kitB "dict" "tuple" = _; decide +kernel
    simp [hq, this, gIsN_is, isNo]; exact h
  | int i => simp [gIsN_is, isNo]; exact h
  | bool b => 
    have : kitB "bool" "tuple" = some false := by decide +kernel
    simp [this, gIsN_is, isNo]; exact h
  | none => simp [gIsN_is, isNo]; exact h
  | str b => simp [gIsN_is, isNo]; exact h
  | list b =>
    have : kitB (tyD (.list b)) "tuple" = some false := by show kitB "list" "tuple" = _; decide +kernel
    simp [this, gIsN_is, isNo]; exact h
end
end Cp
/-! Py2: k01's own look at the form of a policy, on. -/
namespace Cp
open PySem L2
section
variable {st : Sto} {P : Rv → Sto → Prop} {E : Er → Sto → Prop}
def sizK2 : List (Str × Int) := [("call", 5), ("wait", 2), ("then", 3), ("fallback", 4), ("retry", 3), ("timeout", 3), ("race", 4), ("both", 3), ("hedge", 4)]
def sizD2 : List (PyData × PyData) := sizK2.map fun x => (.str x.1, .int x.2)
theorem sizK2_look (k : Str) : sizK2.lookup k = sizK.lookup k := by
  by_cases h1 : k = Str.ofString "hedge"
  · subst h1; decide +kernel
  · by_cases h2 : k = Str.ofString "both"
    · subst h2; decide +kernel
    · have e1 : (k == Str.ofString "hedge") = false := by simpa using h1
      have e2 : (k == Str.ofString "both") = false := by simpa using h2
      unfold sizK2 sizK
      simp only [List.lookup_cons, List.lookup_nil, e1, e2]
theorem look_K2 (k : Str) : lookK sizD2 (.str k) = (sizK.lookup k).map PyData.int := by
  rw [← sizK2_look]
  unfold sizD2
  generalize sizK2 = l
  induction l with
  | nil => rfl
  | cons x l ih =>
    obtain ⟨a, i⟩ := x
    rw [List.map_cons, List.lookup_cons]
    show (if keyB (.str a) (.str k) = true then some (PyData.int i) else lookK (l.map fun x => (.str x.1, .int x.2)) (.str k)) = _
    rw [ih]
    by_cases c : a = k
    · subst c; simp [keyB]
    · have : (k == a) = false := by simpa using fun e => c e.symm
      simp [keyB, c, this]
theorem w_has_formY {d : PyData} (hd : Od d) (h : ∀ t, P (.d (.bool (hfB d))) (st ++ t)) : WVe noE (semY_has_form [.d d] st) P := by
  have hq := hd.nq
  have hp : pPow 10 9 = true := by decide
  unfold semY_has_form sbY_has_form
  rw [W_body]
  refine ⟨rfl, ?_⟩
  refine seq_cut (fun ρ s => ρ = [some (.d d), some (.c st.length), none] ∧ s = st ++ [.m (sizD2.take 8)]) ?_ ?_
  · simp [keysD, keyD]
    rfl
  rintro ρ s ⟨rfl, rfl⟩
  refine seq_cut (fun ρ s => ρ = [some (.d d), some (.c st.length), none] ∧ s = st ++ [.m sizD2]) ?_ ?_
  · simp
    exact ⟨⟨rfl, by rw [szl]; decide +kernel⟩, rfl⟩
  rintro ρ s ⟨rfl, rfl⟩
  have hfl : flK sizD2 = true := rfl
  have hgn : isGone (Cl.m sizD2) = false := ok_notGone (show okK sizD2 (.str (Str.ofString "a")) = true from rfl)
  cases d with
  | tuple ds =>
    have hl := hd.len
    have hl2 : ds.length ≤ 16777216 := by omega
    cases ds with
    | nil => simp; exact h _
    | cons x r =>
      have hx := (hd.mem (d := x) (by simp)).1
      have hll : r.length + 1 ≤ 500000 := hl
      cases r with
      | nil =>
        have e0 : hfB (.tuple [x]) = false := by
          cases x with
          | str k =>
            show hfT k [.str k] = false
            unfold hfT
            cases q : sizK.lookup k with
            | none => simp
            | some i => have := sizK_ge q; simp; intro z; omega
          | _ => rfl
        rw [e0] at h
        simp [szl]
        exact h _
      | cons n r' =>
        have c2 : ¬ ((r'.length : Int) + 1 + 1 < 2) := by omega
        cases x with
        | str k =>
          have hk := hx.ok
          have hlk : lookK sizD2 (.str k) = (sizK.lookup k).map PyData.int := look_K2 k
          have hnn := (hd.mem (d := n) (by simp)).1
          have hr' : r'.length + 1 + 1 ≤ 500000 := by simpa using hll
          have h : ∀ t, P (.d (.bool (hfT k (.str k :: n :: r')))) (st ++ t) := h
          simp [hx.nq, szl, c2]
          unfold hfT at h
          cases q : sizK.lookup k with
          | none =>
            rw [q] at h
            have c0 : ¬ ((0 : Int) = (r'.length : Int) + 1 + 1) := by omega
            simp [hfl, hlk, q, keyD, c0, hgn]
            simpa using h _
          | some i =>
            rw [q] at h
            have i5 := sizK_le q
            have i2 := sizK_ge q
            simp [hfl, hlk, q, keyD, hgn]
            by_cases c : i = (r'.length : Int) + 1 + 1
            · have hc : (some i = some (((PyData.str k :: n :: r').length : Nat) : Int)) = True := by simp [c]
              simp only [hc, decide_true, Bool.true_and] at h
              simp [c, gEq_strs hk]
              by_cases c1 : k = Str.ofString "call"
              · simp only [if_pos c1] at h
                have c5 : r'.length = 3 := by
                  rw [c1] at q
                  have : sizK.lookup (Str.ofString "call") = some 5 := by decide +kernel
                  rw [this] at q; injection q with q; omega
                obtain ⟨g, b, hh, rfl⟩ : ∃ g b hh, r' = [g, b, hh] := by
                  match r', c5 with
                  | [g, b, hh], _ => exact ⟨g, b, hh, rfl⟩
                have h : ∀ t, P (.d (.bool (callB n g b hh))) (st ++ t) := h
                have og := (hd.mem (d := g) (by simp)).1
                have ob := (hd.mem (d := b) (by simp)).1
                have oh := (hd.mem (d := hh) (by simp)).1
                have a2 : atI [.str k, n, g, b, hh] 2 = some g := rfl
                have a3 : atI [.str k, n, g, b, hh] 3 = some b := rfl
                have a4 : atI [.str k, n, g, b, hh] 4 = some hh := rfl
                simp [c1]
                rw [← c1]
                refine w_is_markD hnn ?_
                cases e : labB n with
                | false =>
                  have e2 : callB n g b hh = false := by unfold callB; rw [e]; rfl
                  rw [e2] at h
                  simp
                  exact h _
                | true =>
                  have e0 : callB n g b hh = cbX g b hh := by unfold callB; rw [e]; rfl
                  rw [e0] at h
                  unfold cbX at h
                  simp [oh.nq, kitB_bool, a2, a3, a4]
                  cases hh with
                  | bool v =>
                    simp [isT_bool]
                    refine w_is_stretchD og ?_
                    cases eg : nspB g with
                    | false =>
                      rw [eg] at h
                      simp
                      simpa using h _
                    | true =>
                      rw [eg] at h
                      simp
                      refine w_is_stretchD ob ?_
                      cases eb : nspB b with
                      | false =>
                        rw [eb] at h
                        simp
                        simpa using h _
                      | true =>
                        rw [eb] at h
                        cases v with
                        | true => simp; simpa using h _
                        | false =>
                          cases hg : isNo g <;> cases hb : isNo b <;> simp [gNotN_is, hg, hb] at h ⊢ <;> exact h _
                  | _ => simp [isT_bool]; exact h _
              · simp only [if_neg c1] at h
                by_cases c3 : k = Str.ofString "wait"
                · have c2m : k ∈ nbrK := by rw [c3]; decide
                  simp only [if_pos c2m] at h
                  have h : ∀ t, P (.d (.bool (numfB k n))) (st ++ t) := h
                  unfold numfB at h
                  simp only [if_pos c3] at h
                  simp [c3, hp]
                  refine w_is_countD hnn.nq ?_
                  simpa using h _
                · by_cases c2 : k = Str.ofString "retry"
                  · have c2m : k ∈ nbrK := by rw [c2]; decide
                    simp only [if_pos c2m] at h
                    have h : ∀ t, P (.d (.bool (numfB k n))) (st ++ t) := h
                    unfold numfB at h
                    simp only [if_neg c3, if_pos c2] at h
                    simp [c2, hnn.nq]
                    cases n with
                    | tuple xs =>
                      have hl := hnn.len
                      have hl2 : xs.length ≤ 16777216 := by omega
                      simp [szl, hl2]
                      by_cases c6 : (5 : Int) < xs.length
                      · have c' : ¬ xs.length ≤ 5 := by omega
                        simp [c6]
                        simpa [c'] using h _
                      · have c' : xs.length ≤ 5 := by omega
                        simp [c6]
                        refine lc_map (fun d => .bool (numB d)) (fun d hd' => ?_) (by rw [szl]; omega) ?_
                        · simp [wipeE, hp]
                          exact w_is_countD (hnn.mem hd').1.nq (by simp)
                        · rw [fAll_map]
                          simpa [c'] using h _
                    | dict kvs =>
                      have : kitB (tyD (.dict kvs)) "tuple" = some false := by show kitB "dict" "tuple" = _; decide +kernel
                      simp [this]; exact h _
                    | int i => simp; exact h _
                    | bool b =>
                      have : kitB "bool" "tuple" = some false := by decide +kernel
                      simp [this]; exact h _
                    | none => simp; exact h _
                    | str b => simp; exact h _
                    | list b =>
                      have : kitB (tyD (.list b)) "tuple" = some false := by show kitB "list" "tuple" = _; decide +kernel
                      simp [this]; exact h _
                  · have e2 := gIn_strsF k [Str.ofString "then", Str.ofString "both"]
                    simp only [List.map_cons, List.map_nil] at e2
                    simp [c1, c2, c3, e2, szl]
                    by_cases c4 : k = Str.ofString "then" ∨ k = Str.ofString "both"
                    · have c3n : ¬ k ∈ nbrK := by rcases c4 with rfl | rfl <;> decide
                      simp only [if_neg c3n] at h
                      have e4 : (decide (k = Str.ofString "then") || decide (k = Str.ofString "both")) = true := by simpa using c4
                      rw [e4]
                      exact h _
                    · have c3n : k ∈ nbrK := by
                        have hm := sizK_cases q
                        simp [sizK] at hm
                        rcases hm with ⟨rfl, _⟩ | ⟨rfl, _⟩ | ⟨rfl, _⟩ | ⟨rfl, _⟩ | ⟨rfl, _⟩ | ⟨rfl, _⟩ | ⟨rfl, _⟩ | ⟨rfl, _⟩ | ⟨rfl, _⟩ <;> first | decide | (exact absurd rfl c1) | (exact absurd (.inl rfl) c4) | (exact absurd (.inr rfl) c4)
                      simp only [if_pos c3n] at h
                      have h : ∀ t, P (.d (.bool (numfB k n))) (st ++ t) := h
                      unfold numfB at h
                      simp only [if_neg c2, if_neg c3] at h
                      have e4 : (decide (k = Str.ofString "then") || decide (k = Str.ofString "both")) = false := by
                        cases e5 : (decide (k = Str.ofString "then") || decide (k = Str.ofString "both")) with
                        | false => rfl
                        | true => exact absurd (by simpa using e5) c4
                      rw [e4]
                      simp [gIsN_is]
                      cases hi : isNo n with
                      | true =>
                        rw [hi] at h
                        simp
                        simpa using h _
                      | false =>
                        rw [hi] at h
                        simp [hp]
                        refine w_is_countD hnn.nq ?_
                        simpa using h _
            · have hc : (some i = some (((PyData.str k :: n :: r').length : Nat) : Int)) = False := by simp; omega
              simp only [hc, decide_false, Bool.false_and] at h
              simp [c]
              exact h _
        | dict kvs =>
          have : kitB (tyD (.dict kvs)) "str" = some false := by show kitB "dict" "str" = _; decide +kernel
          simp [this, hx.nq, szl, c2]; exact h _
        | int i => simp [szl, c2]; exact h _
        | none => simp [szl, c2]; exact h _
        | tuple b => simp [szl, c2]; exact h _
        | bool b =>
          have : kitB "bool" "str" = some false := by decide +kernel
          simp [this, szl, c2]; exact h _
        | list b =>
          have : kitB (tyD (.list b)) "str" = some false := by show kitB "list" "str" = _; decide +kernel
          simp [this, szl, c2]; exact h _
  | dict kvs =>
    have : kitB (tyD (.dict kvs)) "tuple" = some false := by show kitB "dict" "tuple" = _; decide +kernel
    simp [hq, this]; exact h _
  | int i => simp; exact h _
  | bool b =>
    have : kitB "bool" "tuple" = some false := by decide +kernel
    simp [this]; exact h _
  | none => simp; exact h _
  | str b => simp; exact h _
  | list b =>
    have : kitB (tyD (.list b)) "tuple" = some false := by show kitB "list" "tuple" = _; decide +kernel
    simp [this]; exact h _
end
end Cp
/-! Py3: policies of the data that the looks call policies; the look level by level. -/
namespace Cp
open PySem L2
theorem lab_of {d : PyData} (h : labB d = true) : ∃ l, d = .str l ∧ IsLab l := by
  cases d with
  | str x =>
    have h : (decide (1 ≤ x.length) && decide (x.length ≤ 8) && x.cps.toList.all fun c => decide (c ∈ SIG.cps.toList)) = true := h
    rw [Bool.and_eq_true, Bool.and_eq_true] at h
    exact ⟨x, rfl, of_decide_eq_true h.1.1, of_decide_eq_true h.1.2, fun c hc => of_decide_eq_true (List.all_eq_true.mp h.2 c hc)⟩
  | _ => cases h
theorem num_of {d : PyData} (h : numB d = true) : ∃ i, d = .int i ∧ 0 ≤ i ∧ i ≤ 1000000000 := by
  cases d with
  | int i =>
    have h : (decide (0 ≤ i) && decide (i ≤ 1000000000)) = true := h
    rw [Bool.and_eq_true] at h
    exact ⟨i, rfl, of_decide_eq_true h.1, of_decide_eq_true h.2⟩
  | _ => cases h
theorem sp_of {d : PyData} (h : nspB d = true) : ∃ g, spD g = d ∧ SpOk g := by
  cases d with
  | none => exact ⟨none, rfl, trivial⟩
  | tuple ds =>
    revert h
    show spanB (.tuple ds) = true → _
    intro h
    unfold spanB at h
    split at h
    · rename_i i j e
      cases e
      rw [Bool.and_eq_true, Bool.and_eq_true] at h
      obtain ⟨⟨h1, h2⟩, h3⟩ := h
      obtain ⟨i', e1, k1, k2⟩ := num_of h1
      obtain ⟨j', e2, k3, k4⟩ := num_of h2
      cases e1; cases e2
      exact ⟨some (i, j), rfl, k1, of_decide_eq_true h3, k4⟩
    · cases h
  | _ => cases h
theorem nu_of {d : PyData} (h : (isNo d || numB d) = true) : ∃ n, nuD n = d ∧ NuOk n := by
  cases d with
  | none => exact ⟨none, rfl, trivial⟩
  | int i =>
    obtain ⟨i', e, h1, h2⟩ := num_of (d := .int i) (by simpa [isNo] using h)
    cases e
    exact ⟨some i, rfl, h1, h2⟩
  | _ => cases h
theorem nums_of {ds : List PyData} (h : ds.all numB = true) : ∃ ns : List Int, ds = ns.map PyData.int ∧ ∀ x ∈ ns, 0 ≤ x ∧ x ≤ 1000000000 := by
  induction ds with
  | nil => exact ⟨[], rfl, fun x hx => by cases hx⟩
  | cons d ds ih =>
    rw [List.all_cons, Bool.and_eq_true] at h
    obtain ⟨i, rfl, h1, h2⟩ := num_of h.1
    obtain ⟨ns, rfl, hn⟩ := ih h.2
    exact ⟨i :: ns, rfl, fun x hx => by
      rcases List.mem_cons.mp hx with rfl | hx
      · exact ⟨h1, h2⟩
      · exact hn x hx⟩
theorem retry_of {d : PyData} (h : numfB (Str.ofString "retry") d = true) : ∃ ns : List Int, d = .tuple (ns.map PyData.int) ∧ ns.length ≤ 5 ∧ ∀ x ∈ ns, 0 ≤ x ∧ x ≤ 1000000000 := by
  unfold numfB at h
  rw [if_neg (by simp), if_pos rfl] at h
  cases d with
  | tuple xs =>
    have h : (decide (xs.length ≤ 5) && xs.all numB) = true := h
    rw [Bool.and_eq_true] at h
    obtain ⟨ns, rfl, hns⟩ := nums_of h.2
    have h4 := of_decide_eq_true h.1
    rw [List.length_map] at h4
    exact ⟨ns, rfl, h4, hns⟩
  | _ => cases h
/-- a policy of parts that are policies -/
theorem mk_pol {d : PyData} (hf : hfB d = true) {ps : List Pol} (hi : ps.map Pol.pd = innD d) (hn : ∀ p ∈ ps, p.All Pol.Node) : ∃ p : Pol, p.pd = d ∧ p.inn = ps ∧ p.All Pol.Node := by
  unfold hfB at hf
  split at hf
  · rename_i k r
    unfold hfT at hf
    rw [Bool.and_eq_true] at hf
    obtain ⟨h2, h3⟩ := hf
    have h2 := of_decide_eq_true h2
    have hm := sizK_cases h2
    simp [sizK] at hm
    simp only [innD] at hi
    rcases hm with ⟨rfl, hl⟩ | ⟨rfl, hl⟩ | ⟨rfl, hl⟩ | ⟨rfl, hl⟩ | ⟨rfl, hl⟩ | ⟨rfl, hl⟩ | ⟨rfl, hl⟩ | ⟨rfl, hl⟩ | ⟨rfl, hl⟩
    · obtain ⟨a, b, c, e, rfl⟩ := ln4 hl
      have hps : ps = [] := by simpa using hi
      subst hps
      have h3 : callB a b c e = true := by simpa using h3
      unfold callB at h3
      rw [Bool.and_eq_true] at h3
      obtain ⟨l, rfl, hlab⟩ := lab_of h3.1
      have h4 := h3.2
      unfold cbX at h4
      cases e with
      | bool v =>
        simp only [Bool.and_eq_true, Bool.or_eq_true] at h4
        obtain ⟨⟨h5, h6⟩, h7⟩ := h4
        obtain ⟨g, rfl, hg⟩ := sp_of h5
        obtain ⟨g2, rfl, hg2⟩ := sp_of h6
        refine ⟨.call l g g2 v, rfl, rfl, hlab, hg, hg2, ?_⟩
        rw [isNo_sp, isNo_sp] at h7
        rcases h7 with (h7 | h7) | h7
        · exact .inl h7
        · exact .inr (.inl (by simpa using h7))
        · exact .inr (.inr (by simpa using h7))
      | _ => cases h4
    · obtain ⟨a, rfl⟩ := ln1 hl
      have hps : ps = [] := by simpa using hi
      subst hps
      have h3 : numB a = true := by simpa [nbrK, numfB] using h3
      obtain ⟨i, rfl, h4, h5⟩ := num_of h3
      exact ⟨.wait i, rfl, rfl, h4, h5⟩
    · obtain ⟨a, b, rfl⟩ := ln2 hl
      have hps : ps.map Pol.pd = [a, b] := by simpa using hi
      match ps, hps with
      | [x, y], e =>
        cases e
        exact ⟨.two .thn x y, rfl, rfl, trivial, hn x (by simp), hn y (by simp)⟩
    · obtain ⟨a, b, c, rfl⟩ := ln3 hl
      have hps : ps.map Pol.pd = [b, c] := by simpa using hi
      have h3 : (isNo a || numB a) = true := by simpa [nbrK, numfB] using h3
      obtain ⟨n, rfl, hnu⟩ := nu_of h3
      match ps, hps with
      | [x, y], e =>
        cases e
        exact ⟨.num .fall n x y, rfl, rfl, hnu, hn x (by simp), hn y (by simp)⟩
    · obtain ⟨a, b, rfl⟩ := ln2 hl
      have hps : ps.map Pol.pd = [b] := by simpa using hi
      have h3 : numfB (Str.ofString "retry") a = true := by simpa [nbrK] using h3
      obtain ⟨ns, rfl, h4, hns⟩ := retry_of h3
      match ps, hps with
      | [x], e =>
        cases e
        exact ⟨.retry ns x, rfl, rfl, ⟨h4, hns⟩, hn x (by simp)⟩
    · obtain ⟨a, b, rfl⟩ := ln2 hl
      have hps : ps.map Pol.pd = [b] := by simpa using hi
      have h3 : (isNo a || numB a) = true := by simpa [nbrK, numfB] using h3
      obtain ⟨n, rfl, hnu⟩ := nu_of h3
      match ps, hps with
      | [x], e =>
        cases e
        exact ⟨.tmo n x, rfl, rfl, hnu, hn x (by simp)⟩
    · obtain ⟨a, b, c, rfl⟩ := ln3 hl
      have hps : ps.map Pol.pd = [b, c] := by simpa using hi
      have h3 : (isNo a || numB a) = true := by simpa [nbrK, numfB] using h3
      obtain ⟨n, rfl, hnu⟩ := nu_of h3
      match ps, hps with
      | [x, y], e =>
        cases e
        exact ⟨.num .race n x y, rfl, rfl, hnu, hn x (by simp), hn y (by simp)⟩
    · obtain ⟨a, b, c, rfl⟩ := ln3 hl
      have hps : ps.map Pol.pd = [b, c] := by simpa using hi
      have h3 : (isNo a || numB a) = true := by simpa [nbrK, numfB] using h3
      obtain ⟨n, rfl, hnu⟩ := nu_of h3
      match ps, hps with
      | [x, y], e =>
        cases e
        exact ⟨.num .hedge n x y, rfl, rfl, hnu, hn x (by simp), hn y (by simp)⟩
    · obtain ⟨a, b, rfl⟩ := ln2 hl
      have hps : ps.map Pol.pd = [a, b] := by simpa using hi
      match ps, hps with
      | [x, y], e =>
        cases e
        exact ⟨.two .both x y, rfl, rfl, trivial, hn x (by simp), hn y (by simp)⟩
  · cases hf
theorem dep_le {p : Pol} {k : Nat} (h : ∀ q ∈ p.inn, q.depth ≤ k) : p.depth ≤ 1 + k := by
  cases p with
  | call l g b h => simp [Pol.depth]
  | wait n => simp [Pol.depth]
  | two t a b => have h1 := h a (by simp [Pol.inn]); have h2 := h b (by simp [Pol.inn]); simp [Pol.depth]; omega
  | num t n a b => have h1 := h a (by simp [Pol.inn]); have h2 := h b (by simp [Pol.inn]); simp [Pol.depth]; omega
  | retry ps a => have h1 := h a (by simp [Pol.inn]); simp [Pol.depth]; omega
  | tmo n a => have h1 := h a (by simp [Pol.inn]); simp [Pol.depth]; omega
theorem labs_inn (p : Pol) : p.labs = (match labD p.pd with
    | some l => [l]
    | none => p.inn.flatMap Pol.labs) ∧ (labD p.pd ≠ none → p.inn = []) := by
  rw [labD_pol]
  cases p with
  | call l g b h => exact ⟨rfl, fun _ => rfl⟩
  | wait n => exact ⟨rfl, fun _ => rfl⟩
  | two k a b => exact ⟨by simp [Pol.labs, Pol.inn], fun z => absurd rfl z⟩
  | num k n a b => exact ⟨by simp [Pol.labs, Pol.inn], fun z => absurd rfl z⟩
  | retry ps a => exact ⟨by simp [Pol.labs, Pol.inn], fun z => absurd rfl z⟩
  | tmo n a => exact ⟨by simp [Pol.labs, Pol.inn], fun z => absurd rfl z⟩
theorem size_innY (p : Pol) : p.size = 1 + (p.inn.map Pol.size).sum := by
  cases p <;> simp [Pol.size, Pol.inn] <;> omega
/-- what the stack's look calls a policy is one -/
theorem ipGo_of : ∀ (f : Nat) (stk : StkE) (seen : List Str) (many : Nat), ipGo f stk seen many = true → many ≤ 40 → seen.Nodup →
    ∃ s : Stk, stkP s = stk ∧ (∀ x ∈ s, x.1.All Pol.Node ∧ x.2 + x.1.depth ≤ 21) ∧ many + stkS s ≤ 40 ∧ ((s.flatMap fun x => x.1.labs) ++ seen).Nodup
  | 0, _, _, _, h, _, _ => absurd h (by simp [ipGo])
  | f + 1, stk, seen, many, h, hm, hs => by
    rcases List.eq_nil_or_concat stk with e | ⟨ys, y, e⟩
    · subst e
      exact ⟨[], rfl, (fun x hx => by cases hx), by simpa [stkS] using hm, by simpa using hs⟩
    · rw [List.concat_eq_append] at e
      subst e
      obtain ⟨d, dp⟩ := y
      rw [ipGo_snoc] at h
      split at h
      · cases h
      · rename_i hb
        have hf : hfB d = true := by
          cases c : hfB d with
          | true => rfl
          | false => exact absurd (.inr (.inr c)) hb
        have h40 : ¬ 40 < many + 1 := fun c => hb (.inl c)
        have h20 : ¬ 20 < dp := fun c => hb (.inr (.inl c))
        have nx : ∃ seen', ipGo f (ys ++ (innD d).map fun x => (x, dp + 1)) seen' (many + 1) = true ∧ seen'.Nodup ∧ (match labD d with
            | some l => seen' = seen ++ [l]
            | none => seen' = seen) := by
          cases c : labD d with
          | none => rw [c] at h; exact ⟨seen, h, hs, rfl⟩
          | some l =>
            rw [c] at h
            simp only at h
            by_cases hl : l ∈ seen
            · rw [if_pos hl] at h; cases h
            · rw [if_neg hl] at h
              refine ⟨seen ++ [l], h, ?_, rfl⟩
              rw [List.nodup_append]
              exact ⟨hs, by simp, fun a ha b hb e => by rw [List.mem_singleton] at hb; subst hb; subst e; exact hl ha⟩
        obtain ⟨seen', h1, h2, h3⟩ := nx
        obtain ⟨s', k1, k2, k3, k4⟩ := ipGo_of f _ seen' (many + 1) h1 (by omega) h2
        unfold stkP at k1
        obtain ⟨s1, s2, rfl, e1, e2⟩ := List.map_eq_append_iff.mp k1
        have hx2 : ∀ x ∈ s2, x.2 = dp + 1 := fun x hx => by
          have : (x.1.pd, x.2) ∈ s2.map fun x => (x.1.pd, x.2) := List.mem_map_of_mem hx
          rw [e2] at this
          obtain ⟨z, _, hz⟩ := List.mem_map.mp this
          injection hz with _ hz
          exact hz.symm
        have hps : (s2.map (·.1)).map Pol.pd = innD d := by
          have := congrArg (List.map Prod.fst) e2
          rw [List.map_map, List.map_map] at this
          rw [List.map_map]
          simpa [Function.comp_def] using this
        obtain ⟨p, hpd, hpi, hpn⟩ := mk_pol hf hps fun q hq => by
          obtain ⟨x, hx, rfl⟩ := List.mem_map.mp hq
          exact (k2 x (List.mem_append_right _ hx)).1
        have hes : s2 = innS p (dp + 1) := by
          unfold innS
          rw [hpi, List.map_map]
          conv => lhs; rw [← List.map_id s2]
          refine List.map_congr_left fun x hx => ?_
          have := hx2 x hx
          show x = (x.1, dp + 1)
          rw [← this]
        have hd : dp + p.depth ≤ 21 := by
          have := dep_le (p := p) (k := 20 - dp) fun q hq => by
            rw [hpi] at hq
            obtain ⟨x, hx, rfl⟩ := List.mem_map.mp hq
            have h5 := (k2 x (List.mem_append_right _ hx)).2
            have h6 := hx2 x hx
            omega
          omega
        have hsz := inn_size p (dp + 1)
        rw [← hes] at hsz
        rw [stkS_app] at k3
        refine ⟨s1 ++ [(p, dp)], ?_, ?_, ?_, ?_⟩
        · unfold stkP
          rw [List.map_append, e1, List.map_cons, hpd]; rfl
        · intro x hx
          rcases List.mem_append.mp hx with hx | hx
          · exact k2 x (List.mem_append_left _ hx)
          · rw [List.mem_singleton] at hx; subst hx; exact ⟨hpn, hd⟩
        · rw [stkS_app]
          have : stkS [(p, dp)] = p.size := by simp [stkS]
          omega
        · obtain ⟨l1, l2⟩ := labs_inn p
          rw [hpd] at l1 l2
          rw [List.flatMap_append] at k4 ⊢
          have e4 : (([(p, dp)] : Stk).flatMap fun x => x.1.labs) = p.labs := by simp
          rw [e4, l1]
          cases c : labD d with
          | none =>
            rw [c] at h3
            have h3 : seen' = seen := h3
            rw [h3] at k4
            have e5 : (s2.flatMap fun x => x.1.labs) = p.inn.flatMap Pol.labs := by
              rw [hpi, List.flatMap_map]
            rw [e5] at k4
            exact k4
          | some l =>
            rw [c] at h3
            have h3 : seen' = seen ++ [l] := h3
            rw [h3] at k4
            have e6 : s2 = [] := by
              have := l2 (by rw [c]; simp)
              rw [hpi] at this
              simpa using this
            rw [e6] at k4
            have hp : ((s1.flatMap fun x => x.1.labs) ++ [l] ++ seen).Perm ((s1.flatMap fun x => x.1.labs) ++ ([] : Stk).flatMap (fun x => x.1.labs) ++ (seen ++ [l])) := by
              rw [List.flatMap_nil, List.append_nil, List.append_assoc]
              exact List.Perm.append_left _ List.perm_append_comm
            exact hp.nodup_iff.mpr k4
theorem ipD_iff {d : PyData} : ipD d = true ↔ ∃ p : Pol, p.Valid ∧ p.pd = d := by
  constructor
  · intro h
    obtain ⟨s, h1, h2, h3, h4⟩ := ipGo_of 42 [(d, 1)] [] 0 h (by decide) List.nodup_nil
    unfold stkP at h1
    match s, h1 with
    | [(p, k)], e =>
      injection e with e _
      injection e with e1 e2
      simp only at e1 e2
      have h5 := h2 (p, k) (by simp)
      simp only at h5
      refine ⟨p, ⟨h5.1, by simpa [stkS] using h3, by omega, by simpa using h4⟩, e1⟩
  · rintro ⟨p, h, rfl⟩
    exact ipD_pol h
/-! ### level by level -/
def lvGo : Nat → List PyData → Nat → List Str → Bool
  | 0, _, _, marks => decide marks.Nodup
  | k + 1, lv, many, marks => if 40 < many + lv.length ∨ (k = 0 ∧ lv ≠ []) ∨ lv.all hfB = false then false else lvGo k (lv.flatMap innD) (many + lv.length) (marks ++ lv.filterMap labD)
def planD (d : PyData) : Bool := lvGo 21 [d] 0 []
theorem split_lv : ∀ (lv : List PyData), lv.all hfB = true → ∀ ps' : List Pol, ps'.map Pol.pd = lv.flatMap innD → (∀ p ∈ ps', p.All Pol.Node) → ∃ ps : List Pol, ps.map Pol.pd = lv ∧ (∀ p ∈ ps, p.All Pol.Node) ∧ ps.flatMap Pol.inn = ps'
  | [], _, ps', h, _ => by
    have : ps' = [] := by simpa using h
    subst this
    exact ⟨[], rfl, (fun p hp => by cases hp), rfl⟩
  | d :: lv, ha, ps', h, hn => by
    rw [List.all_cons, Bool.and_eq_true] at ha
    rw [List.flatMap_cons] at h
    obtain ⟨p1, p2, rfl, e1, e2⟩ := List.map_eq_append_iff.mp h
    obtain ⟨p, h1, h2, h3⟩ := mk_pol ha.1 e1 fun q hq => hn q (List.mem_append_left _ hq)
    obtain ⟨ps, k1, k2, k3⟩ := split_lv lv ha.2 p2 e2 fun q hq => hn q (List.mem_append_right _ hq)
    refine ⟨p :: ps, by rw [List.map_cons, h1, k1], fun q hq => ?_, by rw [List.flatMap_cons, h2, k3]⟩
    rcases List.mem_cons.mp hq with rfl | hq
    · exact h3
    · exact k2 q hq
theorem sizes_lv : ∀ ps : List Pol, (ps.map Pol.size).sum = ps.length + ((ps.flatMap Pol.inn).map Pol.size).sum
  | [] => rfl
  | p :: ps => by
    rw [List.map_cons, List.sum_cons, List.flatMap_cons, List.map_append, List.sum_append, sizes_lv ps, size_innY p, List.length_cons]; omega
theorem labs_lv : ∀ ps : List Pol, (ps.flatMap Pol.labs).Perm ((ps.map Pol.pd).filterMap labD ++ (ps.flatMap Pol.inn).flatMap Pol.labs)
  | [] => List.Perm.refl _
  | p :: ps => by
    have ih := labs_lv ps
    obtain ⟨l1, l2⟩ := labs_inn p
    rw [List.flatMap_cons, List.map_cons, List.flatMap_cons, List.flatMap_append, List.filterMap_cons, l1]
    cases c : labD p.pd with
    | none =>
      refine (List.Perm.append_left _ ih).trans ?_
      rw [← List.append_assoc, ← List.append_assoc]
      exact List.Perm.append_right _ List.perm_append_comm
    | some l =>
      rw [l2 (by rw [c]; simp)]
      exact List.Perm.cons l ih
theorem lv_of : ∀ (k : Nat) (lv : List PyData) (many : Nat) (marks : List Str), lvGo k lv many marks = true → (k = 0 → lv = []) → many ≤ 40 →
    ∃ ps : List Pol, ps.map Pol.pd = lv ∧ (∀ p ∈ ps, p.All Pol.Node ∧ p.depth + 1 ≤ k) ∧ many + (ps.map Pol.size).sum ≤ 40 ∧ (marks ++ ps.flatMap Pol.labs).Nodup
  | 0, lv, many, marks, h, h0, hm => by
    rw [h0 rfl]
    exact ⟨[], rfl, (fun p hp => by cases hp), by simpa using hm, by simpa [lvGo] using h⟩
  | k + 1, lv, many, marks, h, _, hm => by
    unfold lvGo at h
    split at h
    · cases h
    · rename_i hb
      have hf : lv.all hfB = true := by
        cases c : lv.all hfB with
        | true => rfl
        | false => exact absurd (.inr (.inr c)) hb
      have h40 : ¬ 40 < many + lv.length := fun c => hb (.inl c)
      have hk : k = 0 → lv = [] := fun c => Classical.byContradiction fun z => hb (.inr (.inl ⟨c, z⟩))
      obtain ⟨ps', k1, k2, k3, k4⟩ := lv_of k _ _ _ h (fun c => by rw [hk c]; rfl) (by omega)
      obtain ⟨ps, j1, j2, j3⟩ := split_lv lv hf ps' k1 fun p hp => (k2 p hp).1
      have hlen : ps.length = lv.length := by rw [← j1, List.length_map]
      refine ⟨ps, j1, fun p hp => ⟨j2 p hp, ?_⟩, ?_, ?_⟩
      · have hk0 : k ≠ 0 := fun c => by
          rw [hk c] at j1
          have : ps = [] := by simpa using j1
          rw [this] at hp; cases hp
        have := dep_le (p := p) (k := k - 1) fun q hq => by
          have : q ∈ ps' := by rw [← j3]; exact List.mem_flatMap.mpr ⟨p, hp, hq⟩
          have := (k2 q this).2
          omega
        omega
      · rw [sizes_lv, j3, hlen]; omega
      · have hp := labs_lv ps
        rw [j1, j3] at hp
        rw [List.append_assoc] at k4
        exact (List.Perm.append_left marks hp).nodup_iff.mpr k4
theorem lv_pol : ∀ (k : Nat) (ps : List Pol) (many : Nat) (marks : List Str), (k = 0 → ps = []) → (∀ p ∈ ps, p.All Pol.Node ∧ p.depth + 1 ≤ k) → many + (ps.map Pol.size).sum ≤ 40 → (marks ++ ps.flatMap Pol.labs).Nodup → lvGo k (ps.map Pol.pd) many marks = true
  | 0, ps, many, marks, h0, _, _, h => by
    rw [h0 rfl] at h ⊢
    simpa [lvGo] using h
  | k + 1, ps, many, marks, _, ha, hm, h => by
    have hsz := sizes_lv ps
    have e1 : (ps.map Pol.pd).flatMap innD = (ps.flatMap Pol.inn).map Pol.pd := by
      rw [List.flatMap_map, List.map_flatMap]
      simp only [innD_pol]
    have hf : (ps.map Pol.pd).all hfB = true := by
      rw [List.all_map]
      exact List.all_eq_true.mpr fun p hp => hf_pol (ha p hp).1
    unfold lvGo
    rw [if_neg ?_, e1, List.length_map]
    · refine lv_pol k _ _ _ (fun c => ?_) (fun q hq => ?_) (by omega) ?_
      · have : ps = [] := by
          cases ps with
          | nil => rfl
          | cons p ps =>
            have h1 := (ha p (by simp)).2
            have h2 := dp_pos p
            omega
        rw [this]; rfl
      · obtain ⟨p, hp, hq⟩ := List.mem_flatMap.mp hq
        have h1 := ha p hp
        have h2 := inn_dp hq
        exact ⟨h1.1.inn hq, by omega⟩
      · rw [List.append_assoc]
        exact (List.Perm.append_left marks (labs_lv ps)).nodup_iff.mp h
    · rintro (c | ⟨c1, c2⟩ | c)
      · rw [List.length_map] at c; omega
      · cases ps with
        | nil => exact c2 rfl
        | cons p ps =>
          have h1 := (ha p (by simp)).2
          have h2 := dp_pos p
          omega
      · rw [hf] at c; cases c
theorem plan_ip (d : PyData) : planD d = ipD d := by
  rw [Bool.eq_iff_iff, ipD_iff]
  constructor
  · intro h
    obtain ⟨ps, h1, h2, h3, h4⟩ := lv_of 21 [d] 0 [] h (fun c => by cases c) (by decide)
    match ps, h1 with
    | [p], e =>
      injection e with e _
      have h5 := h2 p (by simp)
      exact ⟨p, ⟨h5.1, by simpa using h3, by omega, by simpa using h4⟩, e⟩
  · rintro ⟨p, h, rfl⟩
    exact lv_pol 21 [p] 0 [] (fun c => by cases c) (fun q hq => by rw [List.mem_singleton] at hq; subst hq; exact ⟨h.nd, by have := h.dp; omega⟩) (by have := h.sz; simpa using this) (by simpa using h.lb)
end Cp
/-! Py4: the walk of the level-by-level look. -/
namespace Cp
open PySem L2
theorem fMulA_1 (x : PyData) : fMulA (.list [x]) (.int 1) = some (.n (.l [x])) := rfl
theorem fMulA_0 (x : PyData) : fMulA (.list [x]) (.int 0) = some (.n (.l [])) := rfl
theorem onceS_len : ∀ xs : List Str, (onceS xs).Nodup ∧ (∀ x, x ∈ onceS xs ↔ x ∈ xs) ∧ ((onceS xs).length = xs.length ↔ xs.Nodup) := by
  intro xs
  have key : ∀ n, n ≤ xs.length → (onceS (xs.take n)).Nodup ∧ (∀ x, x ∈ onceS (xs.take n) ↔ x ∈ xs.take n) ∧ ((onceS (xs.take n)).length = n ↔ (xs.take n).Nodup) := by
    intro n
    induction n with
    | zero => intro _; simp [onceS]
    | succ n ih =>
      intro hn
      obtain ⟨h1, h2, h3⟩ := ih (by omega)
      have hlt : n < xs.length := by omega
      have hle := onceS_le xs n
      rw [onceS_take hlt, List.take_succ_eq_append_getElem hlt]
      have hg : xs.getD n Str.empty = xs[n] := by simp [List.getD, hlt]
      rw [hg]
      by_cases c : (onceS (xs.take n)).any (· == xs[n]) = true
      · have hm : xs[n] ∈ xs.take n := by
          obtain ⟨y, hy, e⟩ := List.any_eq_true.mp c
          rw [← (by simpa using e : y = xs[n])]
          exact (h2 y).mp hy
        rw [if_pos c]
        refine ⟨h1, fun x => ?_, ?_⟩
        · rw [h2, List.mem_append, List.mem_singleton]
          exact ⟨.inl, fun z => z.elim id fun e => by rw [e]; exact hm⟩
        · constructor
          · intro z; omega
          · intro z
            rw [List.nodup_append] at z
            exact absurd rfl (z.2.2 _ hm _ (by simp))
      · have hm : ¬ xs[n] ∈ onceS (xs.take n) := fun z => c (List.any_eq_true.mpr ⟨_, z, by simp⟩)
        rw [if_neg c]
        refine ⟨?_, fun x => ?_, ?_⟩
        · rw [List.nodup_append]
          exact ⟨h1, by simp, fun a ha b hb e => by rw [List.mem_singleton] at hb; subst hb; subst e; exact hm ha⟩
        · rw [List.mem_append, List.mem_append, h2]
        · rw [List.length_append, List.nodup_append]
          simp only [List.length_singleton]
          constructor
          · intro z
            exact ⟨h3.mp (by omega), by simp, fun a ha b hb e => by rw [List.mem_singleton] at hb; subst hb; subst e; exact hm ((h2 _).mpr ha)⟩
          · rintro ⟨z, _, _⟩
            rw [h3.mpr z]
  have := key xs.length (Nat.le_refl _)
  rw [List.take_length] at this
  exact this
section
variable {st : Sto} {P : Rv → Sto → Prop} {E : Er → Sto → Prop}
def strL (xs : List Str) : List PyData := xs.map PyData.str
structure Lvl (d : PyData) (t : Nat) (lv : List PyData) (many : Nat) (marks : List Str) : Prop where
  go : lvGo (21 - t) lv many marks = planD d
  ok : ∀ x ∈ lv, Od x
  mm : many ≤ 40
  mkl : marks.length ≤ many
  ll : lv.length ≤ 200
theorem flat_len {lv : List PyData} (h : lv.all hfB = true) : (lv.flatMap innD).length ≤ 4 * lv.length ∧ (lv.filterMap labD).length ≤ lv.length := by
  induction lv with
  | nil => exact ⟨Nat.zero_le _, Nat.zero_le _⟩
  | cons x lv ih =>
    rw [List.all_cons, Bool.and_eq_true] at h
    have h1 := innD_len h.1
    obtain ⟨h2, h3⟩ := ih h.2
    rw [List.flatMap_cons, List.length_append, List.length_cons, List.filterMap_cons]
    refine ⟨by omega, ?_⟩
    split
    · omega
    · rw [List.length_cons]; omega
theorem Lvl.bad {d : PyData} {t : Nat} {lv : List PyData} {many : Nat} {marks : List Str} (h : Lvl d t lv many marks) (ht : t < 21) (hb : 40 < many + lv.length ∨ (t = 20 ∧ lv ≠ []) ∨ lv.all hfB = false) : planD d = false := by
  rw [← h.go]
  obtain ⟨k, e⟩ : ∃ k, 21 - t = k + 1 := ⟨20 - t, by omega⟩
  rw [e]
  unfold lvGo
  rw [if_pos]
  rcases hb with c | c | c
  · exact .inl c
  · exact .inr (.inl ⟨by omega, c.2⟩)
  · exact .inr (.inr c)
theorem Lvl.next {d : PyData} {t : Nat} {lv : List PyData} {many : Nat} {marks : List Str} (h : Lvl d t lv many marks) (ht : t < 21) (h40 : ¬ 40 < many + lv.length) (h20 : ¬ (t = 20 ∧ lv ≠ [])) (hf : lv.all hfB = true) : Lvl d (t + 1) (lv.flatMap innD) (many + lv.length) (marks ++ lv.filterMap labD) := by
  have hg := h.go
  obtain ⟨k, e⟩ : ∃ k, 21 - t = k + 1 := ⟨20 - t, by omega⟩
  have e2 : 21 - (t + 1) = k := by omega
  rw [e] at hg
  unfold lvGo at hg
  rw [if_neg] at hg
  · obtain ⟨l1, l2⟩ := flat_len hf
    refine ⟨by rw [e2]; exact hg, fun x hx => ?_, by omega, ?_, by omega⟩
    · obtain ⟨y, hy, hx⟩ := List.mem_flatMap.mp hx
      exact (innD_mem (h.ok y hy) hx).1
    · rw [List.length_append]
      have := h.mkl
      omega
  · rintro (c | ⟨c1, c2⟩ | c)
    · exact h40 c
    · exact h20 ⟨by omega, c2⟩
    · rw [hf] at c; cases c
theorem rng21 {t : Nat} {d : PyData} (hd : (rngD 0 21)[t]? = some d) : t < 21 ∧ d = .int (t : Int) := by
  obtain ⟨h1, h2⟩ := rngD_get hd
  exact ⟨by omega, by rw [h1]; simp⟩
theorem all_take {lv : List PyData} {i : Nat} {x : PyData} (hx : lv[i]? = some x) (h : (lv.take i).all hfB = true) (hf : hfB x = true) : (lv.take (i + 1)).all hfB = true := by
  have hi := (List.getElem?_eq_some_iff.mp hx).1
  rw [List.take_succ_eq_append_getElem hi, List.all_append, h]
  have : lv[i] = x := (List.getElem?_eq_some_iff.mp hx).2
  rw [this]
  simpa using hf
theorem take_snoc {lv : List PyData} {i : Nat} {x : PyData} (hx : lv[i]? = some x) : lv.take (i + 1) = lv.take i ++ [x] := by
  have hi := (List.getElem?_eq_some_iff.mp hx).1
  rw [List.take_succ_eq_append_getElem hi, (List.getElem?_eq_some_iff.mp hx).2]
/-- the level, as it stands -/
def LvAt (n : Nat) (t : Sto) (x1 : Vl) (lv : List PyData) : Prop := x1 = .d (.list lv) ∨ ∃ ti, x1 = .c (n + (ti + 1)) ∧ t[ti]? = some (.l lv)
theorem at_cell {st t e : Sto} {c : Cl} {ti : Nat} {x : Cl} (h : t[ti]? = some x) : (st ++ (c :: (t ++ e)))[st.length + (ti + 1)]? = some x := by
  have hi := (List.getElem?_eq_some_iff.mp h).1
  rw [List.getElem?_append_right (by omega), show st.length + (ti + 1) - st.length = ti + 1 by omega, List.getElem?_cons_succ, List.getElem?_append_left hi]
  exact h
theorem LvAt.view {t : Sto} {x1 : Vl} {lv : List PyData} (h : LvAt st.length t x1 lv) (c : Cl) (e : Sto) : Cp.view (st ++ (c :: (t ++ e))) x1 = some (.list lv) := by
  rcases h with rfl | ⟨ti, rfl, h⟩
  · rfl
  · have := at_cell (st := st) (e := e) (c := c) h
    unfold Cp.view
    simp only [this]
theorem LvAt.src {t : Sto} {x1 : Vl} {lv : List PyData} (h : LvAt st.length t x1 lv) (c : Cl) (e : Sto) : ∃ g, srcOf (st ++ (c :: (t ++ e))) x1 = some (lv, g) ∧ ∀ (c' : Cl) (e' : Sto), Grd g lv (st ++ (c' :: (t ++ e'))) := by
  rcases h with rfl | ⟨ti, rfl, h⟩
  · exact ⟨none, rfl, fun _ _ => trivial⟩
  · refine ⟨some (st.length + (ti + 1), lv), ?_, fun c' e' => at_cell h⟩
    unfold srcOf
    simp only [at_cell h]
theorem gLen_v {s : Sto} {x : Vl} {d : PyData} (h : Cp.view s x = some d) : gLen s [x] = fLen d := by
  have e : gLen s [x] = g1 fLen s [x] := by cases x <;> first | rfl | cases h
  rw [e]
  unfold g1
  simp only [h]
theorem tkm (st t e : Sto) (a b : Cl) : List.take (st.length + (t.length + 1 + 1)) (st ++ a :: (t ++ b :: e)) = st ++ a :: (t ++ [b]) := by
  have : st ++ a :: (t ++ b :: e) = (st ++ a :: (t ++ [b])) ++ e := by simp
  rw [this]
  exact List.take_left' (by simp)
theorem stm (st t : Sto) (a b c : Cl) : (st ++ a :: (t ++ [b])).set (st.length + (t.length + 1)) c = st ++ a :: (t ++ [c]) := by
  rw [List.set_append_right _ _ (by omega), show st.length + (t.length + 1) - st.length = t.length + 1 by omega, List.set_cons_succ, List.set_append_right _ _ (Nat.le_refl _), Nat.sub_self]
  rfl
theorem w_is_planY {d : PyData} (hd : Od d) (h : ∀ t, P (.d (.bool (planD d))) (st ++ t)) : WVe noE (semY_is_plan [.d d] st) P := by
  unfold semY_is_plan sbY_is_plan
  rw [W_body]
  refine ⟨rfl, ?_⟩
  refine seq_cut (fun ρ s => ∃ lv many marks x1 x4 x5 x6 t, Lvl d 0 lv many marks ∧ LvAt st.length t x1 lv ∧ s = st ++ (.l (strL marks) :: (t ++ [])) ∧ ρ = [some (.d d), some x1, some (.d (.int ((many : Nat) : Int))), some (.c st.length), x4, x5, x6]) ?_ ?_
  · refine WS_mono (N := fun ρ s => s = st ++ [.l []] ∧ ρ = [some (.d d), some (.d (.list [d])), some (.d (.int 0)), some (.c st.length), none, none, none]) ?_ ?_ (fun _ _ z => z) (fun _ _ z => z) (fun _ _ z => z)
    · simp [szl]
    · rintro ρ s ⟨rfl, rfl⟩
      exact ⟨[d], 0, [], _, _, _, _, [], ⟨rfl, fun x hx => by rw [List.mem_singleton] at hx; subst hx; exact hd, by decide, Nat.le_refl _, by simp⟩, .inl rfl, rfl, rfl⟩
  rintro ρ s ⟨lv, many, marks, x1, x4, x5, x6, t, hL, hA, rfl, rfl⟩
  refine seq_cut (fun ρ s => ∃ lv many marks x1 x4 x5 x6 t, Lvl d 21 lv many marks ∧ LvAt st.length t x1 lv ∧ s = st ++ (.l (strL marks) :: (t ++ [])) ∧ ρ = [some (.d d), some x1, some (.d (.int ((many : Nat) : Int))), some (.c st.length), x4, x5, x6]) ?_ ?_
  · rw [W_sFor]
    simp only [W_iRg1, W_aCons, W_aNil, W_mK, W_mV]
    refine ⟨by decide +kernel, ?_⟩
    refine forGo_by (I := fun j ρ s => ∃ lv many marks x1 x4 x5 x6 t, Lvl d j lv many marks ∧ LvAt st.length t x1 lv ∧ s = st ++ (.l (strL marks) :: (t ++ [])) ∧ ρ = [some (.d d), some x1, some (.d (.int ((many : Nat) : Int))), some (.c st.length), x4, x5, x6]) _ 0 ⟨lv, many, marks, x1, x4, x5, x6, t, hL, hA, rfl, rfl⟩ (fun _ _ _ _ => trivial) ?_ ?_
    · rintro j dj ρ s hdj ⟨lv, many, marks, x1, x4, x5, x6, t, hL, hA, rfl, rfl⟩
      rw [Nat.zero_add] at hL ⊢
      obtain ⟨hj, rfl⟩ := rng21 hdj
      rw [W_gNm]
      have hmm := hL.mm
      have hll := hL.ll
      refine seq_cut (fun ρ s => s = st ++ (.l (strL marks) :: (t ++ [])) ∧ ρ = [some (.d d), some x1, some (.d (.int ((many + lv.length : Nat) : Int))), some (.c st.length), some (.d (.int (j : Int))), x5, x6]) ?_ ?_
      · have hv := hA.view (.l (strL marks)) []
        simp only [List.append_nil] at hv ⊢
        simp [gLen_v hv, szl]
      rintro ρ s ⟨rfl, rfl⟩
      refine seq_cut (fun ρ s => (s = st ++ (.l (strL marks) :: (t ++ [])) ∧ ρ = [some (.d d), some x1, some (.d (.int ((many + lv.length : Nat) : Int))), some (.c st.length), some (.d (.int (j : Int))), x5, x6]) ∧ ¬ 40 < many + lv.length ∧ ¬ (j = 20 ∧ lv ≠ [])) ?_ ?_
      · have hv := hA.view (.l (strL marks)) []
        simp only [List.append_nil] at hv ⊢
        have hne : cmp2 gNeL (st ++ Cl.l (strL marks) :: t) x1 (.d (.list [])) = some (!lv.isEmpty) := by
          rw [cmp2_of (a := .list lv) (b := .list []) hv rfl, gNeL_e]
        by_cases c1 : (40 : Int) < (many : Int) + lv.length
        · have := hL.bad hj (.inl (by omega))
          rw [this] at h
          simp [c1]
          exact h _
        · by_cases c2 : j = 20
          · cases lv with
            | nil =>
              have c1' : ¬ (40 : Int) < (many : Int) := by omega
              simp [c1', c2, hne]
              omega
            | cons x lv =>
              have := hL.bad hj (.inr (.inl ⟨c2, by simp⟩))
              rw [this] at h
              simp at c1
              have c1' : ¬ (40 : Int) < (many : Int) + ((lv.length : Int) + 1) := by omega
              simp [c1', c2, hne]
              exact h _
          · have c2' : ¬ ((j : Int) = 20) := by omega
            simp [c1, c2, c2']
            omega
      rintro ρ s ⟨⟨rfl, rfl⟩, h40, h20⟩
      refine seq_cut (fun ρ s => s = st ++ (.l (strL marks) :: (t ++ [.l []])) ∧ ρ = [some (.d d), some x1, some (.d (.int ((many + lv.length : Nat) : Int))), some (.c st.length), some (.d (.int (j : Int))), some (.c (st.length + (t.length + 1))), x6]) ?_ ?_
      · simp
      rintro ρ s ⟨rfl, rfl⟩
      refine seq_cut (fun ρ s => ∃ y6, s = st ++ (.l (strL (marks ++ lv.filterMap labD)) :: (t ++ [.l (lv.flatMap innD)])) ∧ lv.all hfB = true ∧ ρ = [some (.d d), some x1, some (.d (.int ((many + lv.length : Nat) : Int))), some (.c st.length), some (.d (.int (j : Int))), some (.c (st.length + (t.length + 1))), y6]) ?_ ?_
      · rw [W_sFor]
        obtain ⟨g, hg1, hg2⟩ := hA.src (.l (strL marks)) [.l []]
        rw [W_iOf]
        simp [hg1, -Int.natCast_add]
        refine WS_mono (N := fun ρ s => ∃ y6, s = st ++ (.l (strL (marks ++ lv.filterMap labD)) :: (t ++ [.l (lv.flatMap innD)])) ∧ lv.all hfB = true ∧ ρ = [some (.d d), some x1, some (.d (.int ((many + lv.length : Nat) : Int))), some (.c st.length), some (.d (.int (j : Int))), some (.c (st.length + (t.length + 1))), y6]) ?_ ?_ (fun _ _ z => z) (fun _ _ z => z) (fun _ _ z => z)
        · refine forGo_by (I := fun i ρ s => ∃ y6, s = st ++ (.l (strL (marks ++ (lv.take i).filterMap labD)) :: (t ++ [.l ((lv.take i).flatMap innD)])) ∧ (lv.take i).all hfB = true ∧ ρ = [some (.d d), some x1, some (.d (.int ((many + lv.length : Nat) : Int))), some (.c st.length), some (.d (.int (j : Int))), some (.c (st.length + (t.length + 1))), y6]) _ 0 ⟨x6, by simp, rfl, by simp⟩ ?_ ?_ ?_
          · rintro i ρ s ⟨y6, rfl, _, _⟩
            exact hg2 _ _
          · rintro i x ρ s hx ⟨y6, rfl, hfi, rfl⟩
            rw [Nat.zero_add] at hfi ⊢
            rw [W_gNm]
            have hxm := List.mem_of_getElem? hx
            have hox := hL.ok x hxm
            have hil := (List.getElem?_eq_some_iff.mp hx).1
            have hmk := hL.mkl
            obtain ⟨f1, f2⟩ := flat_len hfi
            have hti : (lv.take i).length ≤ 200 := by rw [List.length_take]; omega
            refine seq_cut (fun ρ s => (s = st ++ (.l (strL (marks ++ (lv.take i).filterMap labD)) :: (t ++ [.l ((lv.take i).flatMap innD)])) ∧ ρ = [some (.d d), some x1, some (.d (.int ((many + lv.length : Nat) : Int))), some (.c st.length), some (.d (.int (j : Int))), some (.c (st.length + (t.length + 1))), some (.d x)]) ∧ hfB x = true) ?_ ?_
            · simp [-Int.natCast_add]
              refine w_has_formY hox fun t' => ?_
              cases hfx : hfB x with
              | true => simp [tkm, -Int.natCast_add]
              | false =>
                have := hL.bad hj (.inr (.inr (by
                  cases c : lv.all hfB with
                  | false => rfl
                  | true => rw [List.all_eq_true.mp c x hxm] at hfx; cases hfx)))
                rw [this] at h
                simp [tkm, -Int.natCast_add]
                exact h _
            rintro ρ s ⟨⟨rfl, rfl⟩, hfx⟩
            refine seq_cut (fun ρ s => s = st ++ (.l (strL (marks ++ (lv.take (i + 1)).filterMap labD)) :: (t ++ [.l ((lv.take i).flatMap innD)])) ∧ ρ = [some (.d d), some x1, some (.d (.int ((many + lv.length : Nat) : Int))), some (.c st.length), some (.d (.int (j : Int))), some (.c (st.length + (t.length + 1))), some (.d x)]) ?_ ?_
            · have hln : (strL (marks ++ (lv.take i).filterMap labD)).length ≤ 300 := by unfold strL; rw [List.length_map, List.length_append]; omega
              rw [take_snoc hx, List.filterMap_append]
              rcases hf_call hfx with ⟨l, r, rfl, hl⟩ | ⟨kk, n, r, rfl, hkk, hl⟩
              · have e5 : strL (marks ++ ((lv.take i).filterMap labD ++ [(PyData.tuple (.str (Str.ofString "call") :: .str l :: r))].filterMap labD)) = strL (marks ++ (lv.take i).filterMap labD) ++ [.str l] := by
                  rw [List.filterMap_cons, hl]
                  unfold strL
                  rw [← List.append_assoc, List.map_append]; rfl
                rw [e5]
                simp [szl, fMulA_1, fExt, itemsD, -Int.natCast_add]
                omega
              · have e5 : strL (marks ++ ((lv.take i).filterMap labD ++ [(PyData.tuple (.str kk :: n :: r))].filterMap labD)) = strL (marks ++ (lv.take i).filterMap labD) := by
                  rw [List.filterMap_cons, hl]
                  simp
                rw [e5]
                have hko : okS (.str kk) := (hox.mem (d := .str kk) (by simp)).1.ok
                simp [szl, gEq_strs hko, hkk, fMulA_0, fExt, itemsD, -Int.natCast_add]
                omega
            rintro ρ s ⟨rfl, rfl⟩
            refine WS_mono (N := fun ρ s => s = st ++ (.l (strL (marks ++ (lv.take (i + 1)).filterMap labD)) :: (t ++ [.l ((lv.take (i + 1)).flatMap innD)])) ∧ ρ = [some (.d d), some x1, some (.d (.int ((many + lv.length : Nat) : Int))), some (.c st.length), some (.d (.int (j : Int))), some (.c (st.length + (t.length + 1))), some (.d x)]) ?_ ?_ (fun _ _ z => z) (fun _ _ z => z) (fun _ _ z => z)
            · have hin := innD_len hfx
              have e6 : (lv.take (i + 1)).flatMap innD = (lv.take i).flatMap innD ++ innD x := by
                rw [take_snoc hx, List.flatMap_append]; simp
              rw [e6]
              generalize (lv.take i).flatMap innD = low at f1
              have hll2 : low.length + (innD x).length ≤ sizeLine := by rw [szl]; omega
              simp [-Int.natCast_add]
              refine w_linnerD hfx ?_
              simp [hll2, fExt, itemsD, tkm, stm, -Int.natCast_add]
            · rintro ρ s ⟨rfl, rfl⟩
              exact ⟨_, rfl, all_take hx hfi hfx, rfl⟩
          · rintro ρ s ⟨y6, rfl, hfi, rfl⟩
            rw [Nat.zero_add, List.take_length] at hfi ⊢
            exact ⟨y6, rfl, hfi, rfl⟩
        · rintro ρ s ⟨y6, rfl, hf, rfl⟩
          exact ⟨rfl, List.all_eq_true.mp hf, y6, rfl⟩
      rintro ρ s ⟨y6, rfl, hf, rfl⟩
      have hn := hL.next hj h40 h20 hf
      refine WS_mono (N := fun ρ s => s = st ++ (.l (strL (marks ++ lv.filterMap labD)) :: (t ++ [.l (lv.flatMap innD)])) ∧ ρ = [some (.d d), some (.c (st.length + (t.length + 1))), some (.d (.int ((many + lv.length : Nat) : Int))), some (.c st.length), some (.d (.int (j : Int))), some (.c (st.length + (t.length + 1))), y6]) ?_ ?_ (fun _ _ z => z) (fun _ _ z => z) (fun _ _ z => z)
      · simp
      · rintro ρ s ⟨rfl, rfl⟩
        exact ⟨_, _, _, _, _, _, _, t ++ [.l (lv.flatMap innD)], hn, .inr ⟨t.length, rfl, by simp⟩, by simp, rfl⟩
    · rintro ρ s ⟨lv, many, marks, x1, x4, x5, x6, t, hL, hA, rfl, rfl⟩
      have e1 : (rngD 0 21).length = 21 := by decide +kernel
      rw [Nat.zero_add, e1] at hL
      exact ⟨lv, many, marks, x1, x4, x5, x6, t, hL, hA, rfl, rfl⟩
  rintro ρ s ⟨lv, many, marks, x1, x4, x5, x6, t, hL, hA, rfl, rfl⟩
  have hg := hL.go
  have hmk := hL.mkl
  have hmm := hL.mm
  have e1 : lvGo (21 - 21) lv many marks = decide marks.Nodup := rfl
  rw [e1] at hg
  obtain ⟨_, _, h3⟩ := onceS_len marks
  have hs : setL (.list (strL marks)) = some (.d (.int ((onceS marks).length : Nat))) := by
    show (match strsE (strL marks) with
      | some xs => if xs.length ≤ 60 then some (Rv.d (.int ((onceS xs).length : Nat))) else none
      | none => none) = _
    unfold strL
    rw [strsE_map]
    simp only
    rw [if_pos (by omega)]
  have hlen : (strL marks).length = marks.length := by unfold strL; rw [List.length_map]
  rw [← hg] at h
  have e2 : decide ((((onceS marks).length : Nat) : Int) = (marks.length : Int)) = decide marks.Nodup := by
    rw [Bool.eq_iff_iff, decide_eq_true_eq, decide_eq_true_eq, ← h3]
    omega
  simp [hs, hlen, e2]
  exact h _
end
end Cp
/-! Px7: values bent. -/
namespace Cp
open PySem L2
/-! ### texts of plain signs -/
def Asc (x : Str) : Prop := ∀ c ∈ x.cps.toList, c < 128
theorem Asc.ok {x : Str} (h : Asc x) : okE (.str x) := fun c hc => Nat.lt_trans (h c hc) (by decide)
theorem Asc.add {x y : Str} (h : Asc x) (k : Asc y) : Asc (x ++ y) := fun c hc => by
  rw [PySem.Str.cps_append, Array.toList_append, List.mem_append] at hc
  exact hc.elim (h c) (k c)
theorem ascB (s : String) (h : (Str.ofString s).cps.toList.all (fun c => decide (c < 128)) = true) : Asc (Str.ofString s) := fun c hc => of_decide_eq_true (List.all_eq_true.mp h c hc)
def upC (c : Nat) : Nat := if 97 ≤ c ∧ c ≤ 122 then c - 32 else c
theorem upper_list : ∀ l : List Nat, (∀ c ∈ l, c < 128) → Txt.upper ⟨l.toArray⟩ = (⟨(l.map upC).toArray⟩ : Str)
  | [], _ => by decide +kernel
  | c :: l, h => by
    have e : (⟨(c :: l).toArray⟩ : Str) = (⟨#[c]⟩ : Str) ++ ⟨l.toArray⟩ := by
      apply PySem.Str.ext'
      rw [PySem.Str.cps_append]
      simp
    rw [e, PySem.W.KOpn.upper_app, PySem.W.KOpn.upper_one (h c (List.mem_cons_self ..)), upper_list l fun d hd => h d (List.mem_cons_of_mem _ hd)]
    apply PySem.Str.ext'
    rw [PySem.Str.cps_append]
    simp [upC]
theorem Asc.upper {x : Str} (h : Asc x) : Asc (Txt.upper x) ∧ (Txt.upper x).length = x.length := by
  have e : x = ⟨x.cps.toList.toArray⟩ := by apply PySem.Str.ext'; simp
  have e2 := upper_list x.cps.toList h
  rw [← e] at e2
  rw [e2]
  refine ⟨fun c hc => ?_, ?_⟩
  · simp at hc
    obtain ⟨d, hd, rfl⟩ := hc
    have := h d (by simpa using hd)
    unfold upC; split <;> omega
  · show ((x.cps.toList.map upC).toArray).size = x.cps.size
    simp
theorem Asc.cut {x : Str} (h : Asc x) (lo hi : Option Int) : Asc (cutS x lo hi) ∧ (cutS x lo hi).length ≤ x.length :=
  ⟨fun c hc => h c (by
    unfold cutS at hc
    simp only [List.toList_toArray] at hc
    exact List.mem_of_mem_drop (List.mem_of_mem_take hc)), cutS_length x lo hi⟩
/-! ### values of plain signs and small numbers -/
mutual
def smI : PyData → Bool
  | .none | .bool _ => true
  | .int i => decide (i.natAbs < 2 ^ 40)
  | .str x => x.cps.toList.all fun c => decide (c < 128)
  | .list xs | .tuple xs => smIs xs
  | .dict kvs => kvs.isEmpty
def smIs : List PyData → Bool
  | [] => true
  | x :: xs => smI x && smIs xs
end
mutual
theorem smI_ok : ∀ {d : PyData}, smI d = true → okE d
  | .none, _ => trivial
  | .bool _, _ => trivial
  | .int i, h => log_small (k := 40) (of_decide_eq_true h) (by decide)
  | .str x, h => Asc.ok fun c hc => of_decide_eq_true (List.all_eq_true.mp h c hc)
  | .list xs, h => smI_oks h
  | .tuple xs, h => smI_oks h
  | .dict kvs, h => by show kvs = []; simpa [smI] using h
theorem smI_oks : ∀ {ds : List PyData}, smIs ds = true → okEs ds
  | [], _ => trivial
  | d :: ds, h => by
    rw [smIs, Bool.and_eq_true] at h
    exact ⟨smI_ok h.1, smI_oks h.2⟩
end
theorem sizAll_rev (ds : List PyData) : sizAll ds.reverse = sizAll ds := by
  induction ds with
  | nil => rfl
  | cons d ds ih => rw [List.reverse_cons, sizAll_app, ih]; simp only [sizAll]; omega
theorem fMulA_l2 {xs : List PyData} (h : xs.length ≤ 100) : fMulA (.list xs) (.int 2) = some (.n (.l (xs ++ xs))) := by
  have e : repD xs 2 = xs ++ xs := by simp [repD, List.replicate]
  have e2 : fMul (.list xs) (.int 2) = some (.n (.l (xs ++ xs))) := by
    show (if -(2 ^ 63) ≤ (2 : Int) ∧ (2 : Int) < 2 ^ 63 ∧ xs.length * (2 : Int).toNat ≤ sizeLine then some (Rv.n (Cl.l (repD xs 2))) else none) = _
    rw [if_pos ⟨by decide, by decide, (show xs.length * 2 ≤ 16777216 by omega)⟩, e]
  unfold fMulA
  rw [e2]
section
variable {st : Sto} {P : Rv → Sto → Prop} {E : Er → Sto → Prop} {i : Nat} {u : Cl} {m : Int}
/-- a value bent -/
structure BB (d v : PyData) : Prop where
  ok : okE v
  sz : siz v ≤ 11 * siz d + 300
  dp : v.depth ≤ d.depth + 2
theorem cutT1 {ds : List PyData} {a : Nat} (h : a < ds.length) : cutD ds (some ((a : Int) + 1)) none = ds.drop (a + 1) := by
  unfold cutD
  have : HT.sIx ds.length 0 (some ((a : Int) + 1)) = a + 1 := by
    rw [show ((a : Int) + 1) = ((a + 1 : Nat) : Int) by omega, HT.sIx_nat]
    omega
  rw [this]
  show (ds.drop (a + 1)).take (ds.length - (a + 1)) = _
  exact List.take_of_length_le (by rw [List.length_drop]; exact Nat.le_refl _)
theorem BB.tup {ds : List PyData} {a : Nat} {x y : PyData} (hs : smIs ds = true) (ha : ds[a]? = some x) (h : BB x y) : BB (.tuple ds) (.tuple (ds.set a y)) := by
  have h1 := sizAll_set y ha
  have h2 := depthAll_set ds a y
  have h3 := h.sz
  have h4 := h.dp
  have hm := List.mem_of_getElem? ha
  have h5 := depthAll_mem hm
  have h6 := sizAll_mem hm
  refine ⟨okEs_set a (smI_oks hs) h.ok, ?_, ?_⟩
  · show sizAll (ds.set a y) + 3 ≤ 11 * (sizAll ds + 3) + 300; omega
  · show PyData.depthAll (ds.set a y) + 1 ≤ PyData.depthAll ds + 1 + 2; omega
end
end Cp
/-! Py5: k01's values bent. -/
namespace Cp
open PySem L2
theorem asc_txI (k : Int) : Asc (txI k) := fun c hc => by
  have h := PySem.int_ascii k
  unfold txI at hc
  have e : (Str.ofString (toString k)).cps.toList = (toString k).toList.map Char.toNat := by
    rw [PySem.Str.ofString_eq_toList]
  rw [e] at hc
  obtain ⟨d, hd, rfl⟩ := List.mem_map.mp hc
  exact h d hd
mutual
def smB (B : Nat) : PyData → Bool
  | .none | .bool _ => true
  | .int i => decide (i.natAbs ≤ B)
  | .str x => x.cps.toList.all fun c => decide (c < 128)
  | .list xs | .tuple xs => smBs B xs
  | .dict kvs => kvs.isEmpty
def smBs (B : Nat) : List PyData → Bool
  | [] => true
  | x :: xs => smB B x && smBs B xs
end
theorem smBs_iff {B : Nat} : ∀ {ds : List PyData}, smBs B ds = true ↔ ∀ d ∈ ds, smB B d = true
  | [] => by simp [smBs]
  | d :: ds => by rw [smBs, Bool.and_eq_true, smBs_iff]; simp
theorem ascB_sm {B : Nat} {x : Str} : smB B (.str x) = true ↔ Asc x := by
  show (x.cps.toList.all fun c => decide (c < 128)) = true ↔ _
  rw [List.all_eq_true]
  exact ⟨fun h c hc => of_decide_eq_true (h c hc), fun h c hc => decide_eq_true (h c hc)⟩
mutual
theorem smB_ok {B : Nat} (hB : B < 2 ^ 40) : ∀ {d : PyData}, smB B d = true → okE d
  | .none, _ => trivial
  | .bool _, _ => trivial
  | .int i, h => log_small (k := 40) (by have : i.natAbs ≤ B := of_decide_eq_true h; omega) (by decide)
  | .str x, h => Asc.ok (ascB_sm.mp h)
  | .list xs, h => smB_oks hB h
  | .tuple xs, h => smB_oks hB h
  | .dict kvs, h => by show kvs = []; simpa [smB] using h
theorem smB_oks {B : Nat} (hB : B < 2 ^ 40) : ∀ {ds : List PyData}, smBs B ds = true → okEs ds
  | [], _ => trivial
  | d :: ds, h => by
    rw [smBs, Bool.and_eq_true] at h
    exact ⟨smB_ok hB h.1, smB_oks hB h.2⟩
end
mutual
theorem smB_mono {B B' : Nat} (hB : B ≤ B') : ∀ {d : PyData}, smB B d = true → smB B' d = true
  | .none, _ => rfl
  | .bool _, _ => rfl
  | .int i, h => decide_eq_true (Nat.le_trans (of_decide_eq_true h) hB)
  | .str x, h => h
  | .list xs, h => smBs_mono hB h
  | .tuple xs, h => smBs_mono hB h
  | .dict kvs, h => h
theorem smBs_mono {B B' : Nat} (hB : B ≤ B') : ∀ {ds : List PyData}, smBs B ds = true → smBs B' ds = true
  | [], _ => rfl
  | d :: ds, h => by
    rw [smBs, Bool.and_eq_true] at h
    show (smB B' d && smBs B' ds) = true
    rw [smB_mono hB h.1, smBs_mono hB h.2]; rfl
end
/-- the bound of whole numbers behind a bend -/
def nxB (B : Nat) : Nat := B + 1000000001
structure Bx (B : Nat) (d v : PyData) : Prop where
  sm : smB (nxB B) v = true
  sz : siz v ≤ 2 * siz d + 500
  dp : v.depth ≤ d.depth + 1
def L01 : List PyData := [.none, .bool true, .bool false, .int 0, .int 1, .int (-1), .int 1000000000, .int 1000000001, .str (Str.ofString ""), .str (Str.ofString "a"), .str (Str.ofString "call"), .str (Str.ofString "wait"), .str (Str.ofString "race"), .str (Str.ofString "longlabel"), .tuple [], .list [], .dict []]
theorem L01_ok (B : Nat) (d : PyData) : ∀ v ∈ L01, Bx B d v := fun v hv => by
  have h1 : L01.all (smB 1000000001) = true := by decide +kernel
  have h2 : (L01.all fun v => decide (siz v ≤ 300)) = true := by decide +kernel
  have h3 : (L01.all fun v => decide (v.depth ≤ 1)) = true := by decide +kernel
  exact ⟨smB_mono (by unfold nxB; omega) (List.all_eq_true.mp h1 v hv), Nat.le_trans (of_decide_eq_true (List.all_eq_true.mp h2 v hv)) (by omega), Nat.le_trans (of_decide_eq_true (List.all_eq_true.mp h3 v hv)) (by omega)⟩
theorem tup_ob {B : Nat} {ds es : List PyData} (hd : smBs B ds = true) (hm : ∀ e ∈ es, e ∈ ds ∨ e = .str (Str.ofString "a")) (hs : sizAll es ≤ 2 * sizAll ds + 500) : Bx B (.tuple ds) (.tuple es) ∧ Bx B (.tuple ds) (.list es) := by
  have h0 := smBs_mono (B' := nxB B) (by unfold nxB; omega) hd
  have h1 : smBs (nxB B) es = true := smBs_iff.mpr fun e he => (hm e he).elim (fun h => smBs_iff.mp h0 e h) fun h => by rw [h]; show ((Str.ofString "a").cps.toList.all fun c => decide (c < 128)) = true; decide +kernel
  have h2 : PyData.depthAll es ≤ PyData.depthAll ds := depthAll_le fun e he => (hm e he).elim (fun h => depthAll_mem h) fun h => by rw [h]; exact Nat.zero_le _
  have h3 : sizAll es + 3 ≤ 2 * (sizAll ds + 3) + 500 := by omega
  have h4 : PyData.depthAll es + 1 ≤ PyData.depthAll ds + 1 + 1 := by omega
  exact ⟨⟨h1, h3, h4⟩, ⟨h1, h3, h4⟩⟩
theorem one_ob {B : Nat} {d : PyData} (hd : smB B d = true) : Bx B d (.tuple [d]) ∧ Bx B d (.list [d]) := by
  have h0 := smB_mono (B' := nxB B) (by unfold nxB; omega) hd
  have h1 : smBs (nxB B) [d] = true := by show (smB (nxB B) d && true) = true; rw [h0]; rfl
  have h2 : siz d + 2 + 0 + 3 ≤ 2 * siz d + 500 := by omega
  have h3 : max d.depth 0 + 1 ≤ d.depth + 1 := by omega
  exact ⟨⟨h1, h2, h3⟩, ⟨h1, h2, h3⟩⟩
theorem str_ob {B : Nat} {x y : Str} (h : Asc y) (hl : y.length ≤ x.length + 20) : Bx B (.str x) (.str y) := by
  refine ⟨ascB_sm.mpr h, ?_, Nat.zero_le _⟩
  show 10 * y.length + 2 ≤ 2 * (10 * x.length + 2) + 500
  omega
theorem int_ob {B : Nat} {d : PyData} {k : Int} (hB : B < 2 ^ 40) (h : k.natAbs ≤ B + 1) : Bx B d (.int k) := by
  have h1 : k.natAbs.log2 < 41 := by
    rcases Nat.eq_zero_or_pos k.natAbs with h0 | h0
    · rw [h0]; decide
    · exact (Nat.log2_lt (by omega)).mpr (by omega)
  refine ⟨decide_eq_true (by unfold nxB; omega), ?_, Nat.zero_le _⟩
  show k.natAbs.log2 + 2 ≤ _
  omega
theorem cutL1 (ds : List PyData) (a : Nat) (h : a < ds.length) : cutD ds (some (a : Int)) (some ((a : Int) + 1)) = [ds[a]] := by
  unfold cutD
  have h1 : HT.sIx ds.length 0 (some (a : Int)) = a := by rw [HT.sIx_nat]; omega
  have h2 : HT.sIx ds.length ds.length (some ((a : Int) + 1)) = a + 1 := by
    rw [show ((a : Int) + 1) = ((a + 1 : Nat) : Int) by omega, HT.sIx_nat]; omega
  rw [h1, h2]
  have : ds.drop a = ds[a] :: ds.drop (a + 1) := List.drop_eq_getElem_cons h
  rw [this, show a + 1 - a = 1 by omega]
  rfl
theorem cutFrom (ds : List PyData) (a : Nat) (h : a ≤ ds.length) : cutD ds (some (a : Int)) none = ds.drop a := by
  unfold cutD
  have h1 : HT.sIx ds.length 0 (some (a : Int)) = a := by rw [HT.sIx_nat]; omega
  rw [h1]
  show (ds.drop a).take (ds.length - a) = _
  exact List.take_of_length_le (by rw [List.length_drop]; exact Nat.le_refl _)
theorem sizAll_td (ds : List PyData) (a : Nat) : sizAll (ds.take a) + sizAll (ds.drop a) = sizAll ds := by rw [← sizAll_app, List.take_append_drop]
theorem Bx.tup {B : Nat} {ds : List PyData} {a : Nat} {x y : PyData} (hs : smBs B ds = true) (ha : ds[a]? = some x) (h : Bx B x y) : Bx B (.tuple ds) (.tuple (ds.set a y)) := by
  have h0 := smBs_mono (B' := nxB B) (by unfold nxB; omega) hs
  have h1 := sizAll_set y ha
  have h2 := depthAll_set ds a y
  have h3 := h.sz
  have h4 := h.dp
  have hm := List.mem_of_getElem? ha
  have h5 := depthAll_mem hm
  have h6 := sizAll_mem hm
  refine ⟨smBs_iff.mpr fun d hd => ?_, ?_, ?_⟩
  · rcases List.mem_or_eq_of_mem_set hd with hd | rfl
    · exact smBs_iff.mp h0 d hd
    · exact h.sm
  · show sizAll (ds.set a y) + 3 ≤ 2 * (sizAll ds + 3) + 500; omega
  · show PyData.depthAll (ds.set a y) + 1 ≤ PyData.depthAll ds + 1 + 1; omega
end Cp
/-! Py6: k01's bends. -/
namespace Cp
open PySem L2
section
variable {st : Sto} {P : Rv → Sto → Prop} {i : Nat} {u : Cl} {m : Int} {bb : Nat}
theorem smB_q {d : PyData} (hB : bb < 2 ^ 40) (hd : smB bb d = true) : isQ d = false := by
  have hok := smB_ok hB hd
  cases d with
  | dict kvs => obtain rfl : kvs = [] := hok; rfl
  | _ => rfl
theorem int_ob2 {d : PyData} {k : Int} (h : k.natAbs ≤ 1000) : Bx bb d (.int k) := by
  have h1 : k.natAbs.log2 < 41 := by
    rcases Nat.eq_zero_or_pos k.natAbs with h0 | h0
    · rw [h0]; decide
    · exact (Nat.log2_lt (by omega)).mpr (by omega)
  refine ⟨decide_eq_true (by unfold nxB; omega), ?_, Nat.zero_le _⟩
  show k.natAbs.log2 + 2 ≤ _
  omega
theorem w_tailY {d : PyData} {x2 x3 x4 : Option Vl} {N B C : En → Sto → Prop} (hB : bb < 2 ^ 39) (hd : smB bb d = true) (hz : siz d ≤ 60000) (hu : st[i]? = some u) (hU : Urn m u) (hm : m < 2 ^ 190) (h : ∀ v u', Bx bb d v → Urn (m + 1) u' → P (.d v) (st.set i u')) :
    WSe noE ((sSeq (sAsg (gNm 4) (mV (mLst (aCons (mV (mK .none)) (aCons (mV (mK (.bool true))) (aCons (mV (mK (.bool false))) (aCons (mV (mK (.int 0))) (aCons (mV (mK (.int 1))) (aCons (mV (mNeg (mK (.int 1)))) (aCons (mV (mBin (fI pPow fun i j => i ^ j.toNat) (mK (.int 10)) (mK (.int 9)))) (aCons (mV (mBin fAdd (mBin (fI pPow fun i j => i ^ j.toNat) (mK (.int 10)) (mK (.int 9))) (mK (.int 1)))) (aCons (mV (mK (.str ""))) (aCons (mV (mK (.str "a"))) (aCons (mV (mK (.str "call"))) (aCons (mV (mK (.str "wait"))) (aCons (mV (mK (.str "race"))) aNil)))))))))))))))) (sSeq (sAsg (gNm 4) (mV (mBin fAdd (mN 4) (mLst (aCons (mV (mK (.str "longlabel"))) (aCons (mV (mTup aNil)) (aCons (mV (mLst aNil)) (aCons (mV mD0) aNil)))))))) (sSeq (sIf (mTru (mIsi "tuple" (mN 1))) (sAsg (gNm 4) (mV (mBin fAdd (mN 4) (mBin fMulA (mLst (aCons (mV (mCal (g1 fList) (aCons (mV (mN 1)) aNil))) (aCons (mV (mBin fAdd (mN 1) (mTup (aCons (mV (mK (.str "a"))) aNil)))) (aCons (mV (mBin fAdd (mN 1) (mN 1))) (aCons (mV (mTup (aCons (mV (mN 1)) aNil))) (aCons (mV (mTup (aCons (mV (mK (.str "wait"))) (aCons (mV (mK (.int 2))) aNil)))) aNil)))))) (mK (.int 2)))))) sNil) (sSeq (sIf (mTru (mIsi "str" (mN 1))) (sAsg (gNm 4) (mV (mBin fAdd (mN 4) (mBin fMulA (mLst (aCons (mV (mBin fAdd (mN 1) (mK (.str "x")))) (aCons (mV (mUpper (mN 1))) (aCons (mV (mBin fAdd (mN 1) (mK (.str " ")))) (aCons (mV (mSl (mN 1) (oSome (mK (.int 1))) oNone)) (aCons (mV (mTup (aCons (mV (mN 1)) aNil))) (aCons (mV (mLst (aCons (mV (mN 1)) aNil))) aNil))))))) (mK (.int 2)))))) sNil) (sSeq (sIf (mTru (mIsi "int" (mN 1))) (sAsg (gNm 4) (mV (mBin fAdd (mN 4) (mBin fMulA (mLst (aCons (mV (mBin fAddB (mN 1) (mK (.int 1)))) (aCons (mV (mBin fSubB (mN 1) (mK (.int 1)))) (aCons (mV (mBin fSubR (mK (.int 0)) (mN 1))) (aCons (mV (bV (mCmp gEq (mN 1) (mK (.int 1))))) (aCons (mV (mCal (g1 fStrB) (aCons (mV (mN 1)) aNil))) aNil)))))) (mK (.int 2)))))) sNil) (sRet (mCall semU_of (aCons (mVc (mN 0)) (aCons (mV (mN 4)) aNil))))))))) [some (.c i), some (.d d), x2, x3, x4] st) N B C P := by
  have hi : i < st.length := (List.getElem?_eq_some_iff.mp hu).1
  have hq := smB_q (by omega) hd
  refine seq_cut (fun ρ s => s = st ∧ ρ = [some (.c i), some (.d d), x2, x3, some (.d (.list (L01.take 13)))]) ?_ ?_
  · have hp : pPow 10 9 = true := by decide
    simp [hp, szl]
    rfl
  rintro ρ s ⟨rfl, rfl⟩
  refine seq_cut (fun ρ s' => s' = s ∧ ρ = [some (.c i), some (.d d), x2, x3, some (.d (.list L01))]) ?_ ?_
  · simp [mD0, szl]
    exact ⟨by decide +kernel, rfl⟩
  rintro ρ s' ⟨rfl, rfl⟩
  have hL : L01.length = 17 := rfl
  have fin : ∀ ys : List PyData, ys.length ≤ 50 → (∀ v ∈ ys, Bx bb d v) → L01 ++ ys ≠ [] ∧ (L01 ++ ys).length ≤ 100 ∧ (∀ v ∈ L01 ++ ys, Bx bb d v) := fun ys hl hy =>
    ⟨by simp [L01], by rw [List.length_append]; omega, fun v hv => (List.mem_append.mp hv).elim (L01_ok bb d v) (hy v)⟩
  have fin0 : L01 ≠ [] ∧ L01.length ≤ 100 ∧ ∀ v ∈ L01, Bx bb d v := ⟨by simp [L01], by rw [hL]; decide, L01_ok bb d⟩
  -- the list that is drawn from
  have last : ∀ xs : List PyData, xs ≠ [] ∧ xs.length ≤ 100 ∧ (∀ v ∈ xs, Bx bb d v) → WSe noE ((sRet (mCall semU_of (aCons (mVc (mN 0)) (aCons (mV (mN 4)) aNil)))) [some (.c i), some (.d d), x2, x3, some (.d (.list xs))] s') N B C P := fun xs ⟨h1, h2, h3⟩ => by
    simp
    refine w_of (xs := xs) hu hU (by omega) h1 (by rw [szl]; omega) fun v u' hv hU' => ?_
    simp
    exact h v u' (h3 v hv) hU'
  cases d with
  | tuple ds =>
    have hs : sizAll ds + 3 ≤ 60000 := hz
    have hl := sizAll_len ds
    have hdd : smBs bb ds = true := hd
    have e1 : ds.length ≤ 16777215 := by omega
    have e2 : ds.length + ds.length ≤ 16777216 := by omega
    refine seq_cut (fun ρ s => s = s' ∧ ∃ xs, (xs ≠ [] ∧ xs.length ≤ 100 ∧ (∀ v ∈ xs, Bx bb (.tuple ds) v)) ∧ ρ = [some (.c i), some (.d (.tuple ds)), x2, x3, some (.d (.list xs))]) ?_ ?_
    · have o1 := (tup_ob (es := ds) hdd (fun e he => .inl he) (by omega)).2
      have o2 := (tup_ob (es := ds ++ [.str (Str.ofString "a")]) hdd (fun e he => (List.mem_append.mp he).elim .inl fun h => .inr (List.mem_singleton.mp h)) (by rw [sizAll_app]; have : siz (.str (Str.ofString "a")) ≤ 102 := siz_kind "a" (by decide); show sizAll ds + (siz (.str (Str.ofString "a")) + 2 + 0) ≤ _; omega)).1
      have o3 := (tup_ob (es := ds ++ ds) hdd (fun e he => .inl ((List.mem_append.mp he).elim id id)) (by rw [sizAll_app]; omega)).1
      have o4 := (one_ob hd).1
      have o5 : Bx bb (.tuple ds) (.tuple [.str (Str.ofString "wait"), .int 2]) := by
        refine ⟨smB_mono (B := 2) (by unfold nxB; omega) (by decide +kernel), ?_, ?_⟩
        · have : siz (.tuple [.str (Str.ofString "wait"), .int 2]) ≤ 300 := by decide +kernel
          omega
        · have : (PyData.tuple [.str (Str.ofString "wait"), .int 2]).depth ≤ 1 := by decide +kernel
          omega
      simp [szl, fMulA_l2, e1, e2, hL]
      intro v hv
      rcases hv with hv | rfl | rfl | rfl | rfl | rfl | rfl | rfl | rfl | rfl | rfl
      · exact L01_ok bb _ v hv
      all_goals assumption
    rintro ρ s ⟨rfl, xs, hxs, rfl⟩
    refine seq_cut (fun ρ s' => s' = s ∧ ρ = [some (.c i), some (.d (.tuple ds)), x2, x3, some (.d (.list xs))]) (by simp) ?_
    rintro ρ s' ⟨rfl, rfl⟩
    refine seq_cut (fun ρ s => s = s' ∧ ρ = [some (.c i), some (.d (.tuple ds)), x2, x3, some (.d (.list xs))]) (by simp) ?_
    rintro ρ s ⟨rfl, rfl⟩
    exact last xs hxs
  | str x =>
    have hs : 10 * x.length + 2 ≤ 60000 := hz
    have ha := ascB_sm.mp hd
    have l1 : (Str.ofString "x").length = 1 := rfl
    have l2 : (Str.ofString " ").length = 1 := rfl
    have e1 : x.length + (Str.ofString "x").length ≤ 16777216 := by omega
    have e2 : x.length + (Str.ofString " ").length ≤ 16777216 := by omega
    have e3 : fSl (.str x) (some 1) none = some (.d (.str (cutS x (some 1) none))) := by
      show (if x.length ≤ sizeLine then some (Rv.d (.str (cutS x (some 1) none))) else none) = _
      rw [if_pos (by rw [szl]; omega)]
    have e4 : x.length ≤ 5592405 := by omega
    have o1 : Bx bb (.str x) (.str (x ++ Str.ofString "x")) := str_ob (ha.add (ascB "x" (by decide +kernel))) (by rw [strLen_append]; omega)
    have o2 : Bx bb (.str x) (.str (x ++ Str.ofString " ")) := str_ob (ha.add (ascB " " (by decide +kernel))) (by rw [strLen_append]; omega)
    have o3 : Bx bb (.str x) (.str (cutS x (some 1) none)) := str_ob (ha.cut _ _).1 (by have := (ha.cut (some 1) none).2; omega)
    have o4 : Bx bb (.str x) (.str (Txt.upper x)) := str_ob ha.upper.1 (by rw [ha.upper.2]; omega)
    obtain ⟨o5, o6⟩ := one_ob hd
    refine seq_cut (fun ρ s => s = s' ∧ ρ = [some (.c i), some (.d (.str x)), x2, x3, some (.d (.list L01))]) (by simp) ?_
    rintro ρ s ⟨rfl, rfl⟩
    refine seq_cut (fun ρ s' => s' = s ∧ ∃ xs, (xs ≠ [] ∧ xs.length ≤ 100 ∧ (∀ v ∈ xs, Bx bb (.str x) v)) ∧ ρ = [some (.c i), some (.d (.str x)), x2, x3, some (.d (.list xs))]) ?_ ?_
    · simp [szl, fMulA_l2, e1, e2, e3, e4, hL]
      intro v hv
      rcases hv with hv | rfl | rfl | rfl | rfl | rfl | rfl | rfl | rfl | rfl | rfl | rfl | rfl
      · exact L01_ok bb _ v hv
      all_goals assumption
    rintro ρ s' ⟨rfl, xs, hxs, rfl⟩
    refine seq_cut (fun ρ s => s = s' ∧ ρ = [some (.c i), some (.d (.str x)), x2, x3, some (.d (.list xs))]) (by simp) ?_
    rintro ρ s ⟨rfl, rfl⟩
    exact last xs hxs
  | int k =>
    have hk : k.natAbs ≤ bb := of_decide_eq_true hd
    have e1 : k.natAbs.log2 < 1920 := log_small (k := 40) (by omega) (by decide)
    have o1 : Bx bb (.int k) (.int (k + 1)) := int_ob (by omega) (by omega)
    have o2 : Bx bb (.int k) (.int (k - 1)) := int_ob (by omega) (by omega)
    have o3 : Bx bb (.int k) (.int (0 - k)) := int_ob (by omega) (by omega)
    have o3' : Bx bb (.int k) (.int (-k)) := int_ob (by omega) (by omega)
    have o4 : Bx bb (.int k) (.str (txI k)) := by
      have hsh := shown_ok (d := .int k) e1
      have hl : (txI k).length ≤ siz (.int k) := hsh.2.2
      have h41 : siz (.int k) ≤ 43 := by
        have h1 : k.natAbs.log2 < 41 := by
          rcases Nat.eq_zero_or_pos k.natAbs with h0 | h0
          · rw [h0]; decide
          · exact (Nat.log2_lt (by omega)).mpr (by omega)
        show k.natAbs.log2 + 2 ≤ 43
        omega
      refine ⟨ascB_sm.mpr (asc_txI k), ?_, Nat.zero_le _⟩
      show 10 * (txI k).length + 2 ≤ _
      omega
    have o5 : ∀ b, Bx bb (.int k) (.bool b) := fun b => ⟨rfl, by show (5 : Nat) ≤ _; omega, Nat.zero_le _⟩
    refine seq_cut (fun ρ s => s = s' ∧ ρ = [some (.c i), some (.d (.int k)), x2, x3, some (.d (.list L01))]) (by simp) ?_
    rintro ρ s ⟨rfl, rfl⟩
    refine seq_cut (fun ρ s' => s' = s ∧ ρ = [some (.c i), some (.d (.int k)), x2, x3, some (.d (.list L01))]) (by simp) ?_
    rintro ρ s' ⟨rfl, rfl⟩
    refine seq_cut (fun ρ s => s = s' ∧ ∃ xs, (xs ≠ [] ∧ xs.length ≤ 100 ∧ (∀ v ∈ xs, Bx bb (.int k) v)) ∧ ρ = [some (.c i), some (.d (.int k)), x2, x3, some (.d (.list xs))]) ?_ ?_
    · simp [szl, fMulA_l2, e1, hL]
      intro v hv
      rcases hv with hv | rfl | rfl | rfl | rfl | rfl | rfl | rfl | rfl | rfl | rfl
      · exact L01_ok bb _ v hv
      all_goals first | assumption | exact o5 _
    rintro ρ s ⟨rfl, xs, hxs, rfl⟩
    exact last xs hxs
  | bool b =>
    have t1 : kitB "bool" "tuple" = some false := by decide +kernel
    have t2 : kitB "bool" "str" = some false := by decide +kernel
    have t3 : gEq (.bool b) (.int 1) = some (PyData.eqv (.bool b) (.int 1)) := by cases b <;> rfl
    have hb : b2i b = 0 ∨ b2i b = 1 := by cases b <;> simp [b2i]
    have o1 : Bx bb (.bool b) (.int (b2i b + 1)) := int_ob2 (by omega)
    have o2 : Bx bb (.bool b) (.int (b2i b - 1)) := int_ob2 (by omega)
    have o3 : Bx bb (.bool b) (.int (0 - b2i b)) := int_ob2 (by omega)
    have o3' : Bx bb (.bool b) (.int (-b2i b)) := int_ob2 (by omega)
    have o4 : Bx bb (.bool b) (.str (bTx b)) := ⟨by cases b <;> (show ((bTx _).cps.toList.all fun c => decide (c < 128)) = true) <;> decide +kernel, by cases b <;> decide +kernel, Nat.zero_le _⟩
    have o5 : ∀ c, Bx bb (.bool b) (.bool c) := fun c => ⟨rfl, by show (5 : Nat) ≤ _; omega, Nat.zero_le _⟩
    refine seq_cut (fun ρ s => s = s' ∧ ρ = [some (.c i), some (.d (.bool b)), x2, x3, some (.d (.list L01))]) (by simp [t1]) ?_
    rintro ρ s ⟨rfl, rfl⟩
    refine seq_cut (fun ρ s' => s' = s ∧ ρ = [some (.c i), some (.d (.bool b)), x2, x3, some (.d (.list L01))]) (by simp [t2]) ?_
    rintro ρ s' ⟨rfl, rfl⟩
    refine seq_cut (fun ρ s => s = s' ∧ ∃ xs, (xs ≠ [] ∧ xs.length ≤ 100 ∧ (∀ v ∈ xs, Bx bb (.bool b) v)) ∧ ρ = [some (.c i), some (.d (.bool b)), x2, x3, some (.d (.list xs))]) ?_ ?_
    · simp [szl, fMulA_l2, hL, t3]
      intro v hv
      rcases hv with hv | rfl | rfl | rfl | rfl | rfl | rfl | rfl | rfl | rfl | rfl
      · exact L01_ok bb _ v hv
      all_goals first | assumption | exact o5 _
    rintro ρ s ⟨rfl, xs, hxs, rfl⟩
    exact last xs hxs
  | none =>
    refine seq_cut (fun ρ s => s = s' ∧ ρ = [some (.c i), some (.d .none), x2, x3, some (.d (.list L01))]) (by simp) ?_
    rintro ρ s ⟨rfl, rfl⟩
    refine seq_cut (fun ρ s' => s' = s ∧ ρ = [some (.c i), some (.d .none), x2, x3, some (.d (.list L01))]) (by simp) ?_
    rintro ρ s' ⟨rfl, rfl⟩
    refine seq_cut (fun ρ s => s = s' ∧ ρ = [some (.c i), some (.d .none), x2, x3, some (.d (.list L01))]) (by simp) ?_
    rintro ρ s ⟨rfl, rfl⟩
    exact last L01 fin0
  | list ds =>
    have t1 : kitB (tyD (.list ds)) "tuple" = some false := by show kitB "list" "tuple" = _; decide +kernel
    have t2 : kitB (tyD (.list ds)) "str" = some false := by show kitB "list" "str" = _; decide +kernel
    have t3 : kitB (tyD (.list ds)) "int" = some false := kitB_int _
    refine seq_cut (fun ρ s => s = s' ∧ ρ = [some (.c i), some (.d (.list ds)), x2, x3, some (.d (.list L01))]) (by simp [t1]) ?_
    rintro ρ s ⟨rfl, rfl⟩
    refine seq_cut (fun ρ s' => s' = s ∧ ρ = [some (.c i), some (.d (.list ds)), x2, x3, some (.d (.list L01))]) (by simp [t2]) ?_
    rintro ρ s' ⟨rfl, rfl⟩
    refine seq_cut (fun ρ s => s = s' ∧ ρ = [some (.c i), some (.d (.list ds)), x2, x3, some (.d (.list L01))]) (by simp [t3]) ?_
    rintro ρ s ⟨rfl, rfl⟩
    exact last L01 fin0
  | dict kvs =>
    have t1 : kitB (tyD (.dict kvs)) "tuple" = some false := by show kitB "dict" "tuple" = _; decide +kernel
    have t2 : kitB (tyD (.dict kvs)) "str" = some false := by show kitB "dict" "str" = _; decide +kernel
    have t3 : kitB (tyD (.dict kvs)) "int" = some false := kitB_int _
    refine seq_cut (fun ρ s => s = s' ∧ ρ = [some (.c i), some (.d (.dict kvs)), x2, x3, some (.d (.list L01))]) (by simp [t1, hq]) ?_
    rintro ρ s ⟨rfl, rfl⟩
    refine seq_cut (fun ρ s' => s' = s ∧ ρ = [some (.c i), some (.d (.dict kvs)), x2, x3, some (.d (.list L01))]) (by simp [t2, hq]) ?_
    rintro ρ s' ⟨rfl, rfl⟩
    refine seq_cut (fun ρ s => s = s' ∧ ρ = [some (.c i), some (.d (.dict kvs)), x2, x3, some (.d (.list L01))]) (by simp [t3, hq]) ?_
    rintro ρ s ⟨rfl, rfl⟩
    exact last L01 fin0
theorem w_bentY : ∀ (f : Nat) {d : PyData} {st : Sto} {u : Cl} {m : Int} {P : Rv → Sto → Prop}, bb < 2 ^ 39 → smB bb d = true → siz d ≤ 60000 → d.depth < f → d.depth ≤ 100 → st[i]? = some u → Urn m u → m + 3 * d.depth < 2 ^ 180 →
    (∀ v u', Bx bb d v → Urn (m + 3 * d.depth + 3) u' → P (.d v) (st.set i u')) → WVe noE (semY_bent f [.c i, .d d] st) P
  | 0, d, st, u, m, P, _, _, _, hf, _, _, _, _, _ => absurd hf (Nat.not_lt_zero _)
  | f + 1, d, st, u, m, P, hB, hd, hz, hf, hk, hu, hU, hm, h => by
    have hi : i < st.length := (List.getElem?_eq_some_iff.mp hu).1
    have hq := smB_q (by omega) hd
    show WVe noE (bodyF 5 2 (sbY_bent (semY_bent f)) _ _) P
    unfold sbY_bent
    rw [W_body]
    refine ⟨rfl, ?_⟩
    have tail0 : ∀ x2 x3 x4, WSe noE ((sSeq (sAsg (gNm 4) (mV (mLst (aCons (mV (mK .none)) (aCons (mV (mK (.bool true))) (aCons (mV (mK (.bool false))) (aCons (mV (mK (.int 0))) (aCons (mV (mK (.int 1))) (aCons (mV (mNeg (mK (.int 1)))) (aCons (mV (mBin (fI pPow fun i j => i ^ j.toNat) (mK (.int 10)) (mK (.int 9)))) (aCons (mV (mBin fAdd (mBin (fI pPow fun i j => i ^ j.toNat) (mK (.int 10)) (mK (.int 9))) (mK (.int 1)))) (aCons (mV (mK (.str ""))) (aCons (mV (mK (.str "a"))) (aCons (mV (mK (.str "call"))) (aCons (mV (mK (.str "wait"))) (aCons (mV (mK (.str "race"))) aNil)))))))))))))))) (sSeq (sAsg (gNm 4) (mV (mBin fAdd (mN 4) (mLst (aCons (mV (mK (.str "longlabel"))) (aCons (mV (mTup aNil)) (aCons (mV (mLst aNil)) (aCons (mV mD0) aNil)))))))) (sSeq (sIf (mTru (mIsi "tuple" (mN 1))) (sAsg (gNm 4) (mV (mBin fAdd (mN 4) (mBin fMulA (mLst (aCons (mV (mCal (g1 fList) (aCons (mV (mN 1)) aNil))) (aCons (mV (mBin fAdd (mN 1) (mTup (aCons (mV (mK (.str "a"))) aNil)))) (aCons (mV (mBin fAdd (mN 1) (mN 1))) (aCons (mV (mTup (aCons (mV (mN 1)) aNil))) (aCons (mV (mTup (aCons (mV (mK (.str "wait"))) (aCons (mV (mK (.int 2))) aNil)))) aNil)))))) (mK (.int 2)))))) sNil) (sSeq (sIf (mTru (mIsi "str" (mN 1))) (sAsg (gNm 4) (mV (mBin fAdd (mN 4) (mBin fMulA (mLst (aCons (mV (mBin fAdd (mN 1) (mK (.str "x")))) (aCons (mV (mUpper (mN 1))) (aCons (mV (mBin fAdd (mN 1) (mK (.str " ")))) (aCons (mV (mSl (mN 1) (oSome (mK (.int 1))) oNone)) (aCons (mV (mTup (aCons (mV (mN 1)) aNil))) (aCons (mV (mLst (aCons (mV (mN 1)) aNil))) aNil))))))) (mK (.int 2)))))) sNil) (sSeq (sIf (mTru (mIsi "int" (mN 1))) (sAsg (gNm 4) (mV (mBin fAdd (mN 4) (mBin fMulA (mLst (aCons (mV (mBin fAddB (mN 1) (mK (.int 1)))) (aCons (mV (mBin fSubB (mN 1) (mK (.int 1)))) (aCons (mV (mBin fSubR (mK (.int 0)) (mN 1))) (aCons (mV (bV (mCmp gEq (mN 1) (mK (.int 1))))) (aCons (mV (mCal (g1 fStrB) (aCons (mV (mN 1)) aNil))) aNil)))))) (mK (.int 2)))))) sNil) (sRet (mCall semU_of (aCons (mVc (mN 0)) (aCons (mV (mN 4)) aNil))))))))) [some (.c i), some (.d d), x2, x3, x4] st) (fun _ s => P (.d .none) s) (fun _ _ => False) (fun _ _ => False) P := fun x2 x3 x4 =>
      w_tailY hB hd hz hu hU (by omega) fun v u' hv hU' => h v u' hv (hU'.mono (by omega))
    have tail1 : ∀ u1 x2 x3 x4, Urn (m + 1) u1 → WSe noE ((sSeq (sAsg (gNm 4) (mV (mLst (aCons (mV (mK .none)) (aCons (mV (mK (.bool true))) (aCons (mV (mK (.bool false))) (aCons (mV (mK (.int 0))) (aCons (mV (mK (.int 1))) (aCons (mV (mNeg (mK (.int 1)))) (aCons (mV (mBin (fI pPow fun i j => i ^ j.toNat) (mK (.int 10)) (mK (.int 9)))) (aCons (mV (mBin fAdd (mBin (fI pPow fun i j => i ^ j.toNat) (mK (.int 10)) (mK (.int 9))) (mK (.int 1)))) (aCons (mV (mK (.str ""))) (aCons (mV (mK (.str "a"))) (aCons (mV (mK (.str "call"))) (aCons (mV (mK (.str "wait"))) (aCons (mV (mK (.str "race"))) aNil)))))))))))))))) (sSeq (sAsg (gNm 4) (mV (mBin fAdd (mN 4) (mLst (aCons (mV (mK (.str "longlabel"))) (aCons (mV (mTup aNil)) (aCons (mV (mLst aNil)) (aCons (mV mD0) aNil)))))))) (sSeq (sIf (mTru (mIsi "tuple" (mN 1))) (sAsg (gNm 4) (mV (mBin fAdd (mN 4) (mBin fMulA (mLst (aCons (mV (mCal (g1 fList) (aCons (mV (mN 1)) aNil))) (aCons (mV (mBin fAdd (mN 1) (mTup (aCons (mV (mK (.str "a"))) aNil)))) (aCons (mV (mBin fAdd (mN 1) (mN 1))) (aCons (mV (mTup (aCons (mV (mN 1)) aNil))) (aCons (mV (mTup (aCons (mV (mK (.str "wait"))) (aCons (mV (mK (.int 2))) aNil)))) aNil)))))) (mK (.int 2)))))) sNil) (sSeq (sIf (mTru (mIsi "str" (mN 1))) (sAsg (gNm 4) (mV (mBin fAdd (mN 4) (mBin fMulA (mLst (aCons (mV (mBin fAdd (mN 1) (mK (.str "x")))) (aCons (mV (mUpper (mN 1))) (aCons (mV (mBin fAdd (mN 1) (mK (.str " ")))) (aCons (mV (mSl (mN 1) (oSome (mK (.int 1))) oNone)) (aCons (mV (mTup (aCons (mV (mN 1)) aNil))) (aCons (mV (mLst (aCons (mV (mN 1)) aNil))) aNil))))))) (mK (.int 2)))))) sNil) (sSeq (sIf (mTru (mIsi "int" (mN 1))) (sAsg (gNm 4) (mV (mBin fAdd (mN 4) (mBin fMulA (mLst (aCons (mV (mBin fAddB (mN 1) (mK (.int 1)))) (aCons (mV (mBin fSubB (mN 1) (mK (.int 1)))) (aCons (mV (mBin fSubR (mK (.int 0)) (mN 1))) (aCons (mV (bV (mCmp gEq (mN 1) (mK (.int 1))))) (aCons (mV (mCal (g1 fStrB) (aCons (mV (mN 1)) aNil))) aNil)))))) (mK (.int 2)))))) sNil) (sRet (mCall semU_of (aCons (mVc (mN 0)) (aCons (mV (mN 4)) aNil))))))))) [some (.c i), some (.d d), x2, x3, x4] (st.set i u1)) (fun _ s => P (.d .none) s) (fun _ _ => False) (fun _ _ => False) P := fun u1 x2 x3 x4 hU1 =>
      w_tailY hB hd hz (List.getElem?_set_self hi) hU1 (by omega) fun v u' hv hU' => by
        rw [List.set_set]
        exact h v u' hv (hU'.mono (by omega))
    cases d with
    | tuple ds =>
      have hs : sizAll ds + 3 ≤ 60000 := hz
      have hl := sizAll_len ds
      have hdd : smBs bb ds = true := hd
      by_cases c1 : ds = []
      · subst c1
        refine seq_cut (fun ρ s => s = st ∧ ρ = [some (.c i), some (.d (.tuple [])), none, none, none]) (by clear tail0 tail1; generalize ((sSeq (sPar [2, 3] (aCons (mV (mCall semU_next (aCons (mVc (mN 0)) (aCons (mV (mCal (gLen) (aCons (mV (mN 1)) aNil))) aNil)))) (aCons (mV (mCall semU_next (aCons (mVc (mN 0)) (aCons (mV (mK (.int 9))) aNil)))) aNil))) (sSeq (sIf (mCmp gEq (mN 3) (mK (.int 0))) (sRet (mBin fAdd (mSl (mN 1) oNone (oSome (mN 2))) (mSl (mN 1) (oSome (mBin fAddB (mN 2) (mK (.int 1)))) oNone))) sNil) (sSeq (sIf (mCmp gEq (mN 3) (mK (.int 1))) (sRet (mBin fAdd (mBin fAdd (mSl (mN 1) oNone (oSome (mN 2))) (mSl (mN 1) (oSome (mN 2)) (oSome (mBin fAddB (mN 2) (mK (.int 1)))))) (mSl (mN 1) (oSome (mN 2)) oNone))) sNil) (sSeq (sIf (mCmp gEq (mN 3) (mK (.int 2))) (sRet (mBin fAdd (mSl (mN 1) oNone (oSome (mN 2))) (mTurn (mSl (mN 1) (oSome (mN 2)) oNone)))) sNil) (sRet (mBin fAdd (mBin fAdd (mSl (mN 1) oNone (oSome (mN 2))) (mTup (aCons (mV (mCall (semY_bent f) (aCons (mVc (mN 0)) (aCons (mV (mBin fIx (mN 1) (mN 2))) aNil)))) aNil))) (mSl (mN 1) (oSome (mBin fAddB (mN 2) (mK (.int 1)))) oNone))))))) : Sv) = body; simp) ?_
        rintro ρ s ⟨rfl, rfl⟩
        exact tail0 _ _ _
      have hlen : 0 < ds.length := List.length_pos_iff.mpr c1
      have c1' : ds.isEmpty = false := by cases ds with
        | nil => exact absurd rfl c1
        | cons _ _ => rfl
      have bodyW : ∀ (N' : En → Sto → Prop) u1, Urn (m + 1) u1 → WSe noE ((sSeq (sPar [2, 3] (aCons (mV (mCall semU_next (aCons (mVc (mN 0)) (aCons (mV (mCal (gLen) (aCons (mV (mN 1)) aNil))) aNil)))) (aCons (mV (mCall semU_next (aCons (mVc (mN 0)) (aCons (mV (mK (.int 9))) aNil)))) aNil))) (sSeq (sIf (mCmp gEq (mN 3) (mK (.int 0))) (sRet (mBin fAdd (mSl (mN 1) oNone (oSome (mN 2))) (mSl (mN 1) (oSome (mBin fAddB (mN 2) (mK (.int 1)))) oNone))) sNil) (sSeq (sIf (mCmp gEq (mN 3) (mK (.int 1))) (sRet (mBin fAdd (mBin fAdd (mSl (mN 1) oNone (oSome (mN 2))) (mSl (mN 1) (oSome (mN 2)) (oSome (mBin fAddB (mN 2) (mK (.int 1)))))) (mSl (mN 1) (oSome (mN 2)) oNone))) sNil) (sSeq (sIf (mCmp gEq (mN 3) (mK (.int 2))) (sRet (mBin fAdd (mSl (mN 1) oNone (oSome (mN 2))) (mTurn (mSl (mN 1) (oSome (mN 2)) oNone)))) sNil) (sRet (mBin fAdd (mBin fAdd (mSl (mN 1) oNone (oSome (mN 2))) (mTup (aCons (mV (mCall (semY_bent f) (aCons (mVc (mN 0)) (aCons (mV (mBin fIx (mN 1) (mN 2))) aNil)))) aNil))) (mSl (mN 1) (oSome (mBin fAddB (mN 2) (mK (.int 1)))) oNone))))))) [some (.c i), some (.d (.tuple ds)), none, none, none] (st.set i u1)) N' (fun _ _ => False) (fun _ _ => False) P := fun N' u1 hU1 => by
        refine seq_cut (fun ρ s => ∃ (a : Nat) (w : Int) (u2 : Cl), a < ds.length ∧ Urn (m + 3) u2 ∧ s = st.set i u2 ∧ ρ = [some (.c i), some (.d (.tuple ds)), some (.d (.int ((a : Nat) : Int))), some (.d (.int w)), none]) ?_ ?_
        · simp
          refine w_next (List.getElem?_set_self hi) hU1 (by omega) (by omega) (by omega) fun r u2 hr0 hr1 hU2 => ?_
          rw [List.set_set]
          simp
          refine w_next (List.getElem?_set_self hi) hU2 (by omega) (by decide) (by decide) fun w u3 hw0 hw1 hU3 => ?_
          rw [List.set_set]
          simp
          exact ⟨r.toNat, by omega, w, u3, hU3.mono (by omega), rfl, by omega, rfl⟩
        rintro ρ s ⟨a, w, u2, ha, hU2, rfl, rfl⟩
        have hax : ds[a]? = some ds[a] := List.getElem?_eq_getElem ha
        have hmx : ds[a] ∈ ds := List.getElem_mem ha
        have htd := sizAll_td ds a
        have htd1 := sizAll_td ds (a + 1)
        have hdr : ds.drop a = ds[a] :: ds.drop (a + 1) := List.drop_eq_getElem_cons ha
        have hsx : sizAll (ds.drop a) = siz ds[a] + 2 + sizAll (ds.drop (a + 1)) := by rw [hdr]; rfl
        have hta : (ds.take a).length ≤ ds.length := by rw [List.length_take]; omega
        have hda : (ds.drop a).length ≤ ds.length := by rw [List.length_drop]; omega
        have hda1 : (ds.drop (a + 1)).length ≤ ds.length := by rw [List.length_drop]; omega
        have hdr1 : (ds.drop a).reverse.length ≤ ds.length := by rw [List.length_reverse]; exact hda
        have q1 : cutD ds none (some (a : Int)) = ds.take a := cutT (Nat.le_of_lt ha)
        have q2 : cutD ds (some ((a : Int) + 1)) none = ds.drop (a + 1) := cutT1 ha
        have q3 : cutD ds (some (a : Int)) (some ((a : Int) + 1)) = [ds[a]] := cutL1 ds a ha
        have q4 : cutD ds (some (a : Int)) none = ds.drop a := cutFrom ds a (Nat.le_of_lt ha)
        refine seq_cut (fun ρ s => s = st.set i u2 ∧ w ≠ 0 ∧ ρ = [some (.c i), some (.d (.tuple ds)), some (.d (.int ((a : Nat) : Int))), some (.d (.int w)), none]) ?_ ?_
        · by_cases c : w = 0
          · subst c
            have o := (tup_ob (es := ds.take a ++ ds.drop (a + 1)) hdd (fun e he => .inl ((List.mem_append.mp he).elim List.mem_of_mem_take List.mem_of_mem_drop)) (by rw [sizAll_app]; omega)).1
            have := h _ u2 o (hU2.mono (by omega))
            simp only [List.length_append, List.length_take, List.length_drop] at *
            simp [szl, q1, q2]
            exact ⟨by omega, this⟩
          · simp [c]
        rintro ρ s ⟨rfl, c0, rfl⟩
        refine seq_cut (fun ρ s => s = st.set i u2 ∧ ρ = [some (.c i), some (.d (.tuple ds)), some (.d (.int ((a : Nat) : Int))), some (.d (.int w)), none]) ?_ ?_
        · by_cases c : w = 1
          · subst c
            have o := (tup_ob (es := ds.take a ++ ([ds[a]] ++ ds.drop a)) hdd (fun e he => .inl ((List.mem_append.mp he).elim List.mem_of_mem_take fun z => (List.mem_append.mp z).elim (fun z => by rw [List.mem_singleton.mp z]; exact hmx) List.mem_of_mem_drop)) (by rw [sizAll_app, sizAll_app]; show sizAll (ds.take a) + (siz ds[a] + 2 + 0 + sizAll (ds.drop a)) ≤ _; omega)).1
            have := h _ u2 o (hU2.mono (by omega))
            simp only [List.length_append, List.length_take, List.length_drop] at *
            simp [szl, q1, q3, q4]
            have e : ds.take (a + 1) ++ ds.drop a = ds.take a ++ ([ds[a]] ++ ds.drop a) := by rw [List.take_succ_eq_append_getElem ha, List.append_assoc]
            refine ⟨by omega, by omega, ?_⟩
            rw [e]
            exact this
          · simp [c]
        rintro ρ s ⟨rfl, rfl⟩
        refine seq_cut (fun ρ s => s = st.set i u2 ∧ ρ = [some (.c i), some (.d (.tuple ds)), some (.d (.int ((a : Nat) : Int))), some (.d (.int w)), none]) ?_ ?_
        · by_cases c : w = 2
          · subst c
            have o := (tup_ob (es := ds.take a ++ (ds.drop a).reverse) hdd (fun e he => .inl ((List.mem_append.mp he).elim List.mem_of_mem_take fun z => List.mem_of_mem_drop (List.mem_reverse.mp z))) (by rw [sizAll_app, sizAll_rev]; omega)).1
            have := h _ u2 o (hU2.mono (by omega))
            simp only [List.length_append, List.length_take, List.length_drop, List.length_reverse] at *
            simp [szl, q1, q4]
            exact ⟨by omega, this⟩
          · simp [c]
        rintro ρ s ⟨rfl, rfl⟩
        have hat : atI ds (a : Int) = some ds[a] := by rw [atI_at rfl ha]; exact hax
        have hdx : ds[a].depth + 1 ≤ (PyData.tuple ds).depth := by
          have := depthAll_mem hmx
          show ds[a].depth + 1 ≤ PyData.depthAll ds + 1
          omega
        have hszx := sizAll_mem hmx
        simp [hat, q1, q2]
        refine w_bentY f hB (smBs_iff.mp hdd _ hmx) (by omega) (by omega) (by omega) (List.getElem?_set_self hi) hU2 (by omega) fun y u3 hy hU3 => ?_
        rw [List.set_set]
        have e1 : ds.take a ++ ([y] ++ ds.drop (a + 1)) = ds.set a y := by
          rw [List.set_eq_take_append_cons_drop, if_pos ha]; rfl
        have := h (.tuple (ds.set a y)) u3 (Bx.tup hdd hax hy) (hU3.mono (by omega))
        rw [← e1] at this
        simp only [List.length_append, List.length_take, List.length_drop] at *
        simp [szl]
        refine ⟨by omega, by omega, ?_⟩
        simpa using this
      have first : ∀ N' : En → Sto → Prop, (∀ u1, Urn (m + 1) u1 → N' [some (.c i), some (.d (.tuple ds)), none, none, none] (st.set i u1)) → WSe noE ((sIf (bAnd (mTru (mIsi "tuple" (mN 1))) (bAnd (mCmp gNeT (mN 1) (mTup aNil)) (mCmp (gI fun i j => decide (j < i)) (mCall semU_next (aCons (mVc (mN 0)) (aCons (mV (mK (.int 6))) aNil))) (mK (.int 0))))) (sSeq (sPar [2, 3] (aCons (mV (mCall semU_next (aCons (mVc (mN 0)) (aCons (mV (mCal (gLen) (aCons (mV (mN 1)) aNil))) aNil)))) (aCons (mV (mCall semU_next (aCons (mVc (mN 0)) (aCons (mV (mK (.int 9))) aNil)))) aNil))) (sSeq (sIf (mCmp gEq (mN 3) (mK (.int 0))) (sRet (mBin fAdd (mSl (mN 1) oNone (oSome (mN 2))) (mSl (mN 1) (oSome (mBin fAddB (mN 2) (mK (.int 1)))) oNone))) sNil) (sSeq (sIf (mCmp gEq (mN 3) (mK (.int 1))) (sRet (mBin fAdd (mBin fAdd (mSl (mN 1) oNone (oSome (mN 2))) (mSl (mN 1) (oSome (mN 2)) (oSome (mBin fAddB (mN 2) (mK (.int 1)))))) (mSl (mN 1) (oSome (mN 2)) oNone))) sNil) (sSeq (sIf (mCmp gEq (mN 3) (mK (.int 2))) (sRet (mBin fAdd (mSl (mN 1) oNone (oSome (mN 2))) (mTurn (mSl (mN 1) (oSome (mN 2)) oNone)))) sNil) (sRet (mBin fAdd (mBin fAdd (mSl (mN 1) oNone (oSome (mN 2))) (mTup (aCons (mV (mCall (semY_bent f) (aCons (mVc (mN 0)) (aCons (mV (mBin fIx (mN 1) (mN 2))) aNil)))) aNil))) (mSl (mN 1) (oSome (mBin fAddB (mN 2) (mK (.int 1)))) oNone))))))) sNil) [some (.c i), some (.d (.tuple ds)), none, none, none] st) N' (fun _ _ => False) (fun _ _ => False) P := fun N' hN => by
        have bodyW := bodyW N'
        clear tail0 tail1
        generalize ((sSeq (sPar [2, 3] (aCons (mV (mCall semU_next (aCons (mVc (mN 0)) (aCons (mV (mCal (gLen) (aCons (mV (mN 1)) aNil))) aNil)))) (aCons (mV (mCall semU_next (aCons (mVc (mN 0)) (aCons (mV (mK (.int 9))) aNil)))) aNil))) (sSeq (sIf (mCmp gEq (mN 3) (mK (.int 0))) (sRet (mBin fAdd (mSl (mN 1) oNone (oSome (mN 2))) (mSl (mN 1) (oSome (mBin fAddB (mN 2) (mK (.int 1)))) oNone))) sNil) (sSeq (sIf (mCmp gEq (mN 3) (mK (.int 1))) (sRet (mBin fAdd (mBin fAdd (mSl (mN 1) oNone (oSome (mN 2))) (mSl (mN 1) (oSome (mN 2)) (oSome (mBin fAddB (mN 2) (mK (.int 1)))))) (mSl (mN 1) (oSome (mN 2)) oNone))) sNil) (sSeq (sIf (mCmp gEq (mN 3) (mK (.int 2))) (sRet (mBin fAdd (mSl (mN 1) oNone (oSome (mN 2))) (mTurn (mSl (mN 1) (oSome (mN 2)) oNone)))) sNil) (sRet (mBin fAdd (mBin fAdd (mSl (mN 1) oNone (oSome (mN 2))) (mTup (aCons (mV (mCall (semY_bent f) (aCons (mVc (mN 0)) (aCons (mV (mBin fIx (mN 1) (mN 2))) aNil)))) aNil))) (mSl (mN 1) (oSome (mBin fAddB (mN 2) (mK (.int 1)))) oNone))))))) : Sv) = body at bodyW ⊢
        simp [c1, c1']
        refine w_next hu hU (by omega) (by decide) (by decide) fun r u1 hr0 hr1 hU1 => ?_
        simp
        by_cases c2 : 0 < r
        · rw [if_pos c2]
          exact bodyW u1 hU1
        · rw [if_neg c2]
          exact hN u1 hU1
      refine seq_cut (fun ρ s => ∃ u1, s = st.set i u1 ∧ Urn (m + 1) u1 ∧ ρ = [some (.c i), some (.d (.tuple ds)), none, none, none]) (first _ fun u1 hU1 => ⟨u1, rfl, hU1, rfl⟩) ?_
      rintro ρ s ⟨u1, rfl, hU1, rfl⟩
      exact tail1 u1 _ _ _ hU1
    | none =>
      refine seq_cut (fun ρ s => s = st ∧ ρ = [some (.c i), some (.d .none), none, none, none]) (by clear tail0 tail1; generalize ((sSeq (sPar [2, 3] (aCons (mV (mCall semU_next (aCons (mVc (mN 0)) (aCons (mV (mCal (gLen) (aCons (mV (mN 1)) aNil))) aNil)))) (aCons (mV (mCall semU_next (aCons (mVc (mN 0)) (aCons (mV (mK (.int 9))) aNil)))) aNil))) (sSeq (sIf (mCmp gEq (mN 3) (mK (.int 0))) (sRet (mBin fAdd (mSl (mN 1) oNone (oSome (mN 2))) (mSl (mN 1) (oSome (mBin fAddB (mN 2) (mK (.int 1)))) oNone))) sNil) (sSeq (sIf (mCmp gEq (mN 3) (mK (.int 1))) (sRet (mBin fAdd (mBin fAdd (mSl (mN 1) oNone (oSome (mN 2))) (mSl (mN 1) (oSome (mN 2)) (oSome (mBin fAddB (mN 2) (mK (.int 1)))))) (mSl (mN 1) (oSome (mN 2)) oNone))) sNil) (sSeq (sIf (mCmp gEq (mN 3) (mK (.int 2))) (sRet (mBin fAdd (mSl (mN 1) oNone (oSome (mN 2))) (mTurn (mSl (mN 1) (oSome (mN 2)) oNone)))) sNil) (sRet (mBin fAdd (mBin fAdd (mSl (mN 1) oNone (oSome (mN 2))) (mTup (aCons (mV (mCall (semY_bent f) (aCons (mVc (mN 0)) (aCons (mV (mBin fIx (mN 1) (mN 2))) aNil)))) aNil))) (mSl (mN 1) (oSome (mBin fAddB (mN 2) (mK (.int 1)))) oNone))))))) : Sv) = body; simp) ?_
      rintro ρ s ⟨rfl, rfl⟩
      exact tail0 _ _ _
    | int j =>
      refine seq_cut (fun ρ s => s = st ∧ ρ = [some (.c i), some (.d (.int j)), none, none, none]) (by clear tail0 tail1; generalize ((sSeq (sPar [2, 3] (aCons (mV (mCall semU_next (aCons (mVc (mN 0)) (aCons (mV (mCal (gLen) (aCons (mV (mN 1)) aNil))) aNil)))) (aCons (mV (mCall semU_next (aCons (mVc (mN 0)) (aCons (mV (mK (.int 9))) aNil)))) aNil))) (sSeq (sIf (mCmp gEq (mN 3) (mK (.int 0))) (sRet (mBin fAdd (mSl (mN 1) oNone (oSome (mN 2))) (mSl (mN 1) (oSome (mBin fAddB (mN 2) (mK (.int 1)))) oNone))) sNil) (sSeq (sIf (mCmp gEq (mN 3) (mK (.int 1))) (sRet (mBin fAdd (mBin fAdd (mSl (mN 1) oNone (oSome (mN 2))) (mSl (mN 1) (oSome (mN 2)) (oSome (mBin fAddB (mN 2) (mK (.int 1)))))) (mSl (mN 1) (oSome (mN 2)) oNone))) sNil) (sSeq (sIf (mCmp gEq (mN 3) (mK (.int 2))) (sRet (mBin fAdd (mSl (mN 1) oNone (oSome (mN 2))) (mTurn (mSl (mN 1) (oSome (mN 2)) oNone)))) sNil) (sRet (mBin fAdd (mBin fAdd (mSl (mN 1) oNone (oSome (mN 2))) (mTup (aCons (mV (mCall (semY_bent f) (aCons (mVc (mN 0)) (aCons (mV (mBin fIx (mN 1) (mN 2))) aNil)))) aNil))) (mSl (mN 1) (oSome (mBin fAddB (mN 2) (mK (.int 1)))) oNone))))))) : Sv) = body; simp) ?_
      rintro ρ s ⟨rfl, rfl⟩
      exact tail0 _ _ _
    | str j =>
      refine seq_cut (fun ρ s => s = st ∧ ρ = [some (.c i), some (.d (.str j)), none, none, none]) (by clear tail0 tail1; generalize ((sSeq (sPar [2, 3] (aCons (mV (mCall semU_next (aCons (mVc (mN 0)) (aCons (mV (mCal (gLen) (aCons (mV (mN 1)) aNil))) aNil)))) (aCons (mV (mCall semU_next (aCons (mVc (mN 0)) (aCons (mV (mK (.int 9))) aNil)))) aNil))) (sSeq (sIf (mCmp gEq (mN 3) (mK (.int 0))) (sRet (mBin fAdd (mSl (mN 1) oNone (oSome (mN 2))) (mSl (mN 1) (oSome (mBin fAddB (mN 2) (mK (.int 1)))) oNone))) sNil) (sSeq (sIf (mCmp gEq (mN 3) (mK (.int 1))) (sRet (mBin fAdd (mBin fAdd (mSl (mN 1) oNone (oSome (mN 2))) (mSl (mN 1) (oSome (mN 2)) (oSome (mBin fAddB (mN 2) (mK (.int 1)))))) (mSl (mN 1) (oSome (mN 2)) oNone))) sNil) (sSeq (sIf (mCmp gEq (mN 3) (mK (.int 2))) (sRet (mBin fAdd (mSl (mN 1) oNone (oSome (mN 2))) (mTurn (mSl (mN 1) (oSome (mN 2)) oNone)))) sNil) (sRet (mBin fAdd (mBin fAdd (mSl (mN 1) oNone (oSome (mN 2))) (mTup (aCons (mV (mCall (semY_bent f) (aCons (mVc (mN 0)) (aCons (mV (mBin fIx (mN 1) (mN 2))) aNil)))) aNil))) (mSl (mN 1) (oSome (mBin fAddB (mN 2) (mK (.int 1)))) oNone))))))) : Sv) = body; simp) ?_
      rintro ρ s ⟨rfl, rfl⟩
      exact tail0 _ _ _
    | bool j =>
      have t1 : kitB "bool" "tuple" = some false := by decide +kernel
      refine seq_cut (fun ρ s => s = st ∧ ρ = [some (.c i), some (.d (.bool j)), none, none, none]) (by clear tail0 tail1; generalize ((sSeq (sPar [2, 3] (aCons (mV (mCall semU_next (aCons (mVc (mN 0)) (aCons (mV (mCal (gLen) (aCons (mV (mN 1)) aNil))) aNil)))) (aCons (mV (mCall semU_next (aCons (mVc (mN 0)) (aCons (mV (mK (.int 9))) aNil)))) aNil))) (sSeq (sIf (mCmp gEq (mN 3) (mK (.int 0))) (sRet (mBin fAdd (mSl (mN 1) oNone (oSome (mN 2))) (mSl (mN 1) (oSome (mBin fAddB (mN 2) (mK (.int 1)))) oNone))) sNil) (sSeq (sIf (mCmp gEq (mN 3) (mK (.int 1))) (sRet (mBin fAdd (mBin fAdd (mSl (mN 1) oNone (oSome (mN 2))) (mSl (mN 1) (oSome (mN 2)) (oSome (mBin fAddB (mN 2) (mK (.int 1)))))) (mSl (mN 1) (oSome (mN 2)) oNone))) sNil) (sSeq (sIf (mCmp gEq (mN 3) (mK (.int 2))) (sRet (mBin fAdd (mSl (mN 1) oNone (oSome (mN 2))) (mTurn (mSl (mN 1) (oSome (mN 2)) oNone)))) sNil) (sRet (mBin fAdd (mBin fAdd (mSl (mN 1) oNone (oSome (mN 2))) (mTup (aCons (mV (mCall (semY_bent f) (aCons (mVc (mN 0)) (aCons (mV (mBin fIx (mN 1) (mN 2))) aNil)))) aNil))) (mSl (mN 1) (oSome (mBin fAddB (mN 2) (mK (.int 1)))) oNone))))))) : Sv) = body; simp [t1]) ?_
      rintro ρ s ⟨rfl, rfl⟩
      exact tail0 _ _ _
    | list j =>
      have t1 : kitB (tyD (.list j)) "tuple" = some false := by show kitB "list" "tuple" = _; decide +kernel
      refine seq_cut (fun ρ s => s = st ∧ ρ = [some (.c i), some (.d (.list j)), none, none, none]) (by clear tail0 tail1; generalize ((sSeq (sPar [2, 3] (aCons (mV (mCall semU_next (aCons (mVc (mN 0)) (aCons (mV (mCal (gLen) (aCons (mV (mN 1)) aNil))) aNil)))) (aCons (mV (mCall semU_next (aCons (mVc (mN 0)) (aCons (mV (mK (.int 9))) aNil)))) aNil))) (sSeq (sIf (mCmp gEq (mN 3) (mK (.int 0))) (sRet (mBin fAdd (mSl (mN 1) oNone (oSome (mN 2))) (mSl (mN 1) (oSome (mBin fAddB (mN 2) (mK (.int 1)))) oNone))) sNil) (sSeq (sIf (mCmp gEq (mN 3) (mK (.int 1))) (sRet (mBin fAdd (mBin fAdd (mSl (mN 1) oNone (oSome (mN 2))) (mSl (mN 1) (oSome (mN 2)) (oSome (mBin fAddB (mN 2) (mK (.int 1)))))) (mSl (mN 1) (oSome (mN 2)) oNone))) sNil) (sSeq (sIf (mCmp gEq (mN 3) (mK (.int 2))) (sRet (mBin fAdd (mSl (mN 1) oNone (oSome (mN 2))) (mTurn (mSl (mN 1) (oSome (mN 2)) oNone)))) sNil) (sRet (mBin fAdd (mBin fAdd (mSl (mN 1) oNone (oSome (mN 2))) (mTup (aCons (mV (mCall (semY_bent f) (aCons (mVc (mN 0)) (aCons (mV (mBin fIx (mN 1) (mN 2))) aNil)))) aNil))) (mSl (mN 1) (oSome (mBin fAddB (mN 2) (mK (.int 1)))) oNone))))))) : Sv) = body; simp [t1]) ?_
      rintro ρ s ⟨rfl, rfl⟩
      exact tail0 _ _ _
    | dict j =>
      have t1 : kitB (tyD (.dict j)) "tuple" = some false := by show kitB "dict" "tuple" = _; decide +kernel
      refine seq_cut (fun ρ s => s = st ∧ ρ = [some (.c i), some (.d (.dict j)), none, none, none]) (by clear tail0 tail1; generalize ((sSeq (sPar [2, 3] (aCons (mV (mCall semU_next (aCons (mVc (mN 0)) (aCons (mV (mCal (gLen) (aCons (mV (mN 1)) aNil))) aNil)))) (aCons (mV (mCall semU_next (aCons (mVc (mN 0)) (aCons (mV (mK (.int 9))) aNil)))) aNil))) (sSeq (sIf (mCmp gEq (mN 3) (mK (.int 0))) (sRet (mBin fAdd (mSl (mN 1) oNone (oSome (mN 2))) (mSl (mN 1) (oSome (mBin fAddB (mN 2) (mK (.int 1)))) oNone))) sNil) (sSeq (sIf (mCmp gEq (mN 3) (mK (.int 1))) (sRet (mBin fAdd (mBin fAdd (mSl (mN 1) oNone (oSome (mN 2))) (mSl (mN 1) (oSome (mN 2)) (oSome (mBin fAddB (mN 2) (mK (.int 1)))))) (mSl (mN 1) (oSome (mN 2)) oNone))) sNil) (sSeq (sIf (mCmp gEq (mN 3) (mK (.int 2))) (sRet (mBin fAdd (mSl (mN 1) oNone (oSome (mN 2))) (mTurn (mSl (mN 1) (oSome (mN 2)) oNone)))) sNil) (sRet (mBin fAdd (mBin fAdd (mSl (mN 1) oNone (oSome (mN 2))) (mTup (aCons (mV (mCall (semY_bent f) (aCons (mVc (mN 0)) (aCons (mV (mBin fIx (mN 1) (mN 2))) aNil)))) aNil))) (mSl (mN 1) (oSome (mBin fAddB (mN 2) (mK (.int 1)))) oNone))))))) : Sv) = body; simp [t1, hq]) ?_
      rintro ρ s ⟨rfl, rfl⟩
      exact tail0 _ _ _
end
end Cp
/-! Py7: k01's nested values. -/
namespace Cp
open PySem L2
def bN : Nat → Nat
  | 0 => 60
  | t + 1 => if t < 8 then 2 * bN t + 60 else bN t + 120
theorem bN_ge : ∀ t, 60 ≤ bN t
  | 0 => Nat.le_refl _
  | t + 1 => by
    have := bN_ge t
    unfold bN
    split <;> omega
/-- a value nested so deep -/
structure Ns (t : Nat) (v : PyData) : Prop where
  ok : okE v
  dp : v.depth ≤ t + 1
  sz : siz v ≤ bN t
theorem ok_txt (k : String) : okE (.str (Str.ofString k)) := sgn_ofS k
theorem Ns.both {t : Nat} {v : PyData} (h : Ns t v) (ht : t < 8) : Ns (t + 1) (.tuple [.str (Str.ofString "both"), v, v]) := by
  refine ⟨⟨ok_txt "both", h.ok, h.ok, trivial⟩, ?_, ?_⟩
  · have := h.dp
    show max 0 (max v.depth (max v.depth 0)) + 1 ≤ _
    omega
  · have := h.sz
    have e : bN (t + 1) = 2 * bN t + 60 := by rw [bN, if_pos ht]
    have : siz (.str (Str.ofString "both")) ≤ 42 := by decide +kernel
    show siz (.str (Str.ofString "both")) + 2 + (siz v + 2 + (siz v + 2 + 0)) + 3 ≤ _
    omega
theorem Ns.tmo {t : Nat} {v : PyData} (h : Ns t v) (ht : t < 60) : Ns (t + 1) (.tuple [.str (Str.ofString "timeout"), .int (t : Int), v]) := by
  have hlog : (t : Int).natAbs.log2 < 6 := by
    have e : (t : Int).natAbs = t := by omega
    rw [e]
    rcases Nat.eq_zero_or_pos t with h0 | h0
    · rw [h0]; decide
    · exact (Nat.log2_lt (by omega)).mpr (by omega)
  refine ⟨⟨ok_txt "timeout", Nat.lt_trans hlog (by decide), h.ok, trivial⟩, ?_, ?_⟩
  · have := h.dp
    show max 0 (max 0 (max v.depth 0)) + 1 ≤ _
    omega
  · have h1 := h.sz
    have h2 := bN_ge t
    have : siz (.str (Str.ofString "timeout")) ≤ 72 := by decide +kernel
    have e : bN t + 100 ≤ bN (t + 1) := by
      rw [bN]
      split
      · by_cases c : t = 0
        · subst c; decide
        · have : ∀ t, 0 < t → 120 ≤ bN t := fun t ht => by
            obtain ⟨k, rfl⟩ : ∃ k, t = k + 1 := ⟨t - 1, by omega⟩
            have := bN_ge k
            rw [bN]
            split <;> omega
          have := this t (by omega)
          omega
      · omega
    show siz (.str (Str.ofString "timeout")) + 2 + ((t : Int).natAbs.log2 + 2 + 2 + (siz v + 2 + 0)) + 3 ≤ _
    omega
end Cp
/-! L04a: another part, another number: what is due, what is heard. -/
namespace K04
open PySem L2 Cp
theorem eU : sem__law_urn = semU_urn := rfl
theorem eN : sem__law_next = semU_next := rfl
theorem eO : sem__law_of = semU_of := rfl
theorem eGr : ∀ n, sem__law_grown n = semP_grown n
  | 0 => rfl
  | n + 1 => by show bodyF 11 4 (sb__law_grown (sem__law_grown n)) = bodyF 11 4 (sbP_grown (semP_grown n)); rw [eGr n]; rfl
theorem ePo : sem__law_policy = semP_policy := by unfold sem__law_policy sb__law_policy; rw [eGr]; rfl
theorem eLp : ∀ n, sem__law_put n = semS_lput n
  | 0 => rfl
  | n + 1 => by show bodyF 4 3 (sb__law_put (sem__law_put n)) = bodyF 4 3 (sbS_lput (semS_lput n)); rw [eLp n]; rfl
theorem eAp : ∀ n, sem__law_all_paths n = semS_all_paths n
  | 0 => rfl
  | n + 1 => by show bodyF 5 1 (sb__law_all_paths (sem__law_all_paths n)) = bodyF 5 1 (sbS_all_paths (semS_all_paths n)); rw [eAp n]; rfl
theorem ePt : sem__law_part = semS_part := rfl
theorem ePu : ∀ n, sem_put_at n = semS_put_at n
  | 0 => rfl
  | n + 1 => by show bodyF 4 3 (sb_put_at (sem_put_at n)) = bodyF 4 3 (sbS_put_at (semS_put_at n)); rw [ePu n]; rfl
theorem eRe : sem_replaced = semX_replaced := by unfold sem_replaced sb_replaced; rw [ePu]; rfl
theorem eWn : sem_with_number = semX_with_number := by unfold sem_with_number sb_with_number; rw [eRe]; rfl
theorem eBe : ∀ n, sem__law_bent n = semY_bent n
  | 0 => rfl
  | n + 1 => by show bodyF 5 2 (sb__law_bent (sem__law_bent n)) = bodyF 5 2 (sbY_bent (semY_bent n)); rw [eBe n]; rfl
theorem ePl : sem__law_is_plan = semY_is_plan := rfl
structure P4 (p : Pol) : Prop where
  v : p.Valid
  s : p.size ≤ 12
  d : p.depth ≤ 9
structure V4 (x : PyData) : Prop where
  ok : okE x
  sz : siz x ≤ 70000
  dp : x.depth ≤ 13
theorem P4.siz {p : Pol} (h : P4 p) : Cp.siz p.pd ≤ 6000 := by have := Pol.siz_le h.v.nd; have := h.s; omega
theorem P4.dep {p : Pol} (h : P4 p) : p.pd.depth ≤ 10 := by have := p.pd_depth; have := h.d; omega
theorem found4 {p r : Pol} {q : List Nat} {x : PyData} (h : P4 p) (ha : p.at q = some r) (hx : V4 x) : Od (p.putX q x) ∧ (p.putX q x).depth ≤ 30 ∧ Cp.siz (p.putX q x) ≤ 100000 := by
  obtain ⟨g1, g2, g3⟩ := putX_all q ha h.v.nd hx.ok
  have := h.siz; have := h.dep; have := hx.sz; have := hx.dp
  exact ⟨⟨g1, by omega, by omega⟩, by omega, by omega⟩
theorem qlen {p r : Pol} {q : List Nat} (h : P4 p) (ha : p.at q = some r) : q.length < 25 := by
  have := at_depth ha
  have := h.d
  omega
/-- what is due for the part x at the path q -/
def due (p : Pol) (q : List Nat) (x : PyData) : PyData := match p.at q with
  | none => .tuple [.str (Str.ofString "part"), paD q]
  | some _ => if ipD (p.putX q x) then .tuple [.str (Str.ofString "returned"), p.putX q x] else .tuple [.str (Str.ofString "policy"), p.putX q x]
theorem at_paths {p r : Pol} {q : List Nat} (h : p.at q = some r) : q ∈ p.paths := by
  refine at_ind (C := fun q p _ => q ∈ p.paths) ?_ ?_ ?_ ?_ ?_ ?_ ?_ q h
  · intro p; cases p <;> simp [Pol.paths]
  all_goals (intros; simp_all [Pol.paths])
theorem nat_inj : ∀ {a b : List Nat}, (a.map fun (n : Nat) => (n : Int)) = (b.map fun (n : Nat) => (n : Int)) → a = b
  | [], [], _ => rfl
  | [], _ :: _, h => by cases h
  | _ :: _, [], h => by cases h
  | x :: a, y :: b, h => by
    rw [List.map_cons, List.map_cons] at h
    injection h with h1 h2
    have : x = y := by omega
    rw [this, nat_inj h2]
theorem path_eq (p : Pol) (q : List Nat) : pathP p (paD q) = p.at q := by
  show walkP p (q.map fun (n : Nat) => PyData.int (n : Int)) = _
  induction q generalizing p with
  | nil => rfl
  | cons i q ih =>
    show (match stepP p (.int (i : Nat)) with
      | some q' => walkP q' (q.map fun (n : Nat) => PyData.int (n : Int))
      | none => none) = match p.inn[i]? with
      | some r => r.at q
      | none => none
    have e : stepP p (.int (i : Nat)) = p.inn[i]? := by
      show (if 0 ≤ ((i : Nat) : Int) ∧ ((i : Nat) : Int) < p.inn.length then p.inn[((i : Nat) : Int).toNat]? else none) = _
      by_cases h : i < p.inn.length
      · rw [if_pos ⟨by omega, by omega⟩]; rfl
      · rw [if_neg (by omega), List.getElem?_eq_none (by omega)]
    rw [e]
    cases p.inn[i]? with
    | none => rfl
    | some r => exact ih r
/-- small paths -/
def Sq (q : List Nat) : Prop := (∀ n ∈ q, n ≤ 5) ∧ q.length ≤ 30
theorem at_small {p r : Pol} {q : List Nat} (h : p.at q = some r) : ∀ n ∈ q, n ≤ 5 := by
  refine at_ind (C := fun q _ _ => ∀ n ∈ q, n ≤ 5) ?_ ?_ ?_ ?_ ?_ ?_ ?_ q h
  · intro p n hn; cases hn
  all_goals
    intros
    rename_i n hn
    rcases List.mem_cons.mp hn with rfl | hn
    · decide
    · simp_all
theorem paD_oks : ∀ {q : List Nat}, (∀ n ∈ q, n ≤ 5) → okSs (q.map fun (n : Nat) => PyData.int (n : Int))
  | [], _ => trivial
  | n :: q, h => ⟨log_small (k := 100) (by have := h n List.mem_cons_self; omega) (by decide), paD_oks fun m hm => h m (List.mem_cons_of_mem _ hm)⟩
theorem paD_dep (q : List Nat) : (paD q).depth ≤ 1 := by
  show PyData.depthAll (q.map fun (n : Nat) => PyData.int (n : Int)) + 1 ≤ 1
  have : PyData.depthAll (q.map fun (n : Nat) => PyData.int (n : Int)) = 0 := by
    induction q with
    | nil => rfl
    | cons n q ih => show max 0 (PyData.depthAll _) = 0; rw [ih]; rfl
  omega
theorem eqv_paD (a b : List Nat) : PyData.eqv (paD a) (paD b) = decide (a = b) := by
  have e : ∀ l : List Nat, (l.map fun (n : Nat) => PyData.int (n : Int)) = (l.map fun (n : Nat) => (n : Int)).map PyData.int := fun l => by rw [List.map_map]; rfl
  show PyData.eqv (.tuple (a.map fun (n : Nat) => PyData.int (n : Int))) (.tuple (b.map fun (n : Nat) => PyData.int (n : Int))) = _
  rw [eqvTup, e a, e b, PySem.W.ked_eqvAll]
  by_cases h : a = b
  · subst h; simp
  · have : ¬ (a.map fun (n : Nat) => (n : Int)) = b.map fun (n : Nat) => (n : Int) := fun z => h (nat_inj z)
    rw [decide_eq_false h, decide_eq_false this]
theorem oks_all {ds : List PyData} (h : ∀ d ∈ ds, okS d) : okSs ds := by
  induction ds with
  | nil => trivial
  | cons d ds ih => exact ⟨h d List.mem_cons_self, ih fun x hx => h x (List.mem_cons_of_mem _ hx)⟩
theorem in_list (neg : Bool) {ps : List (List Nat)} (hp : ∀ q ∈ ps, ∀ n ∈ q, n ≤ 5) {q : List Nat} (hq : ∀ n ∈ q, n ≤ 5) : gInL neg (paD q) (.list (ps.map paD)) = some (if neg then !decide (q ∈ ps) else decide (q ∈ ps)) := by
  have s1 : SeqAt.shaped (paD q) = true := shaped_ok (d := paD q) (paD_oks hq) (by have := paD_dep q; omega)
  have s2 : SeqAt.shaped (.list (ps.map paD)) = true := shaped_ok (d := .list (ps.map paD)) (oks_all fun d hd => by
    obtain ⟨r, hr, rfl⟩ := List.mem_map.mp hd
    exact paD_oks (hp r hr)) (by
    have : PyData.depthAll (ps.map paD) ≤ 1 := by
      induction ps with
      | nil => exact Nat.zero_le _
      | cons a ps ih =>
        have h1 := paD_dep a
        have h2 := ih fun q hq => hp q (List.mem_cons_of_mem _ hq)
        show max (paD a).depth (PyData.depthAll (ps.map paD)) ≤ 1
        omega
    show PyData.depthAll (ps.map paD) + 1 ≤ 64
    omega)
  have e : ((ps.map paD).any fun z => PyData.eqv z (paD q)) = decide (q ∈ ps) := by
    rw [List.any_map]
    clear s1 s2 hp
    induction ps with
    | nil => rfl
    | cons a ps ih =>
      rw [List.any_cons, ih]
      show (PyData.eqv (paD a) (paD q) || decide (q ∈ ps)) = _
      rw [eqv_paD]
      by_cases h : a = q
      · simp [h]
      · have h' : ¬ q = a := fun z => h z.symm
        simp [h, h']
  unfold gInL
  dsimp only
  rw [s1, s2, e]
  rfl
theorem in_paths (neg : Bool) (p : Pol) {q : List Nat} (hq : ∀ n ∈ q, n ≤ 5) : gInL neg (paD q) (.list (p.paths.map paD)) = some (if neg then !(p.at q).isSome else (p.at q).isSome) := by
  rw [in_list neg (fun q hq => by obtain ⟨r, hr⟩ := paths_at p q hq; exact at_small hr) hq]
  have e : decide (q ∈ p.paths) = (p.at q).isSome := by
    by_cases h : q ∈ p.paths
    · obtain ⟨r, hr⟩ := paths_at p q h
      rw [decide_eq_true h, hr]; rfl
    · rw [decide_eq_false h]
      cases ha : p.at q with
      | none => rfl
      | some r => exact absurd (at_paths ha) h
  rw [e]
section
variable {st : Sto} {P : Rv → Sto → Prop} {E : Er → Sto → Prop} {p r : Pol} {q : List Nat} {x : PyData}
theorem w_due4 (hp : P4 p) (hq : ∀ n ∈ q, n ≤ 5) (hx : V4 x) (h : P (.d (due p q x)) st) : WVe noE (sem__law_due [.d p.pd, .d (paD q), .d x] st) fun v s => back st.length v s P := by
  have hz2 : 2 ≤ sizeLine := by rw [szl]; decide
  unfold sem__law_due sb__law_due
  rw [W_body, eAp, eLp, ePl]
  refine ⟨rfl, ?_⟩
  simp
  refine w_all_paths 25 (by have := hp.d; omega) (by have := hp.s; omega) (by have := hp.d; omega) ?_
  simp [in_paths _ p hq]
  unfold due at h
  cases ha : p.at q with
  | none =>
    rw [ha] at h
    simp [hz2]
    exact h
  | some r =>
    rw [ha] at h
    obtain ⟨g1, g2, g3⟩ := found4 hp ha hx
    simp
    refine w_lput 25 (qlen hp ha) ha fun t => ?_
    simp
    refine w_is_planY g1 fun t => ?_
    rw [plan_ip]
    cases e : ipD (p.putX q x) with
    | true => rw [e] at h; simp [truD, hz2]; exact h
    | false => rw [e] at h; simp [truD, hz2]; exact h
theorem w_repl4 (hp : P4 p) (hx : V4 x) (h0 : p.at q = none → E ⟨Str.ofString "NoPart", some (Str.ofString "value", paD q)⟩ st) (h1 : ∀ r, p.at q = some r → ipD (p.putX q x) = true → P (.d (p.putX q x)) st)
    (h2 : ∀ r, p.at q = some r → ipD (p.putX q x) = false → E ⟨Str.ofString "InvalidPolicy", some (Str.ofString "value", p.putX q x)⟩ st) : WVe E (semX_replaced [.d p.pd, .d (paD q), .d x] st) P := by
  cases ha : p.at q with
  | none =>
    unfold semX_replaced sbX_replaced
    rw [W_body]
    simp
    refine w_check_part _ (qpath_paD q) (fun r hr => ?_) (fun e => ?_)
    · rw [path_eq, ha] at hr; cases hr
    · simpa using h0 ha
  | some r =>
    obtain ⟨g1, g2, g3⟩ := found4 hp ha hx
    exact w_replacedD ha (qlen hp ha) g1 (by omega) (h1 r ha) (h2 r ha)
end
end K04
/-! L04b: what is heard of another part, of another number. -/
namespace K04
open PySem L2 Cp
inductive O4 where
  | ret (d : PyData)
  | pol (d : PyData)
  | part (d : PyData)
def O4.D : O4 → PyData
  | .ret d => .tuple [.str (Str.ofString "returned"), d]
  | .pol d => .tuple [.str (Str.ofString "policy"), d]
  | .part d => .tuple [.str (Str.ofString "part"), d]
def O4.d : O4 → PyData
  | .ret d => d
  | .pol d => d
  | .part d => d
def O4.er : O4 → Option Er
  | .ret _ => none
  | .pol d => some ⟨Str.ofString "InvalidPolicy", some (Str.ofString "value", d)⟩
  | .part d => some ⟨Str.ofString "NoPart", some (Str.ofString "value", d)⟩
def o4 (p : Pol) (q : List Nat) (x : PyData) : O4 := match p.at q with
  | none => .part (paD q)
  | some _ => if ipD (p.putX q x) then .ret (p.putX q x) else .pol (p.putX q x)
theorem due_o4 (p : Pol) (q : List Nat) (x : PyData) : due p q x = (o4 p q x).D := by
  unfold due o4
  cases p.at q with
  | none => rfl
  | some r => dsimp only; split <;> rfl
theorem O4.rep {o : O4} (h1 : okE o.d) (h2 : siz o.d ≤ 1000000) (h3 : o.d.depth ≤ 50) : fRepr o.D = some (.d (.str o.D.shown)) ∧ SeqAt.shaped (.str o.D.shown) = true := by
  have key : ∀ (s : String) (d : PyData), siz (.str (Str.ofString s)) ≤ 200 → okE d → siz d ≤ 1000000 → d.depth ≤ 50 → fRepr (.tuple [.str (Str.ofString s), d]) = some (.d (.str (PyData.tuple [.str (Str.ofString s), d]).shown)) ∧ SeqAt.shaped (.str (PyData.tuple [.str (Str.ofString s), d]).shown) = true := by
    intro s d hs a1 a2 a3
    have ok : okE (.tuple [.str (Str.ofString s), d]) := ⟨sgn_ofS s, a1, trivial⟩
    refine ⟨fReprE ok ?_ ?_, shaped_ok (d := .str (PyData.tuple [.str (Str.ofString s), d]).shown) (showE_sgn ok) (Nat.zero_le _)⟩
    · show siz (.str (Str.ofString s)) + 2 + (siz d + 2 + 0) + 3 ≤ sizeLine
      rw [szl]; omega
    · show max 0 (max d.depth 0) + 1 ≤ 60
      omega
  cases o with
  | ret d => exact key "returned" d (by decide) h1 h2 h3
  | pol d => exact key "policy" d (by decide) h1 h2 h3
  | part d => exact key "part" d (by decide) h1 h2 h3
theorem WV_erE {α : Type} {E : Er → Sto → Prop} {e : Er} {s : Sto} {P : α → Sto → Prop} : WVe E (.er e s : Res α) P = E e s := rfl
theorem caught_ret {T : Th} {m : Sto → Res Rv} {s1 s2 : Sto} {d : PyData} (hm : m s1 = .ok (.d d) s2) : sem__law_caught T m [.o (.th T)] s1 = .ok (.d (O4.ret d).D) s2 := by
  have key : WVe noE (sem__law_caught T m [.o (.th T)] s1) fun r s => r = .d (O4.ret d).D ∧ s = s2 := by
    unfold sem__law_caught sb__law_caught
    rw [W_body]
    refine ⟨rfl, ?_⟩
    simp [W_mAct, hm, szl]
    rfl
  obtain ⟨r, s, e, rfl, rfl⟩ := WV_ex key
  exact e
theorem caught_pol {T : Th} {m : Sto → Res Rv} {s1 s2 : Sto} {d : PyData} (hm : m s1 = .er ⟨Str.ofString "InvalidPolicy", some (Str.ofString "value", d)⟩ s2) : sem__law_caught T m [.o (.th T)] s1 = .ok (.d (O4.pol d).D) s2 := by
  have key : WVe noE (sem__law_caught T m [.o (.th T)] s1) fun r s => r = .d (O4.pol d).D ∧ s = s2 := by
    unfold sem__law_caught sb__law_caught
    rw [W_body]
    refine ⟨rfl, ?_⟩
    simp [W_mAct, hm, List.lookup, WV_erE, szl]
    rfl
  obtain ⟨r, s, e, rfl, rfl⟩ := WV_ex key
  exact e
theorem caught_part {T : Th} {m : Sto → Res Rv} {s1 s2 : Sto} {d : PyData} (hm : m s1 = .er ⟨Str.ofString "NoPart", some (Str.ofString "value", d)⟩ s2) : sem__law_caught T m [.o (.th T)] s1 = .ok (.d (O4.part d).D) s2 := by
  have key : WVe noE (sem__law_caught T m [.o (.th T)] s1) fun r s => r = .d (O4.part d).D ∧ s = s2 := by
    unfold sem__law_caught sb__law_caught
    rw [W_body]
    refine ⟨rfl, ?_⟩
    simp [W_mAct, hm, List.lookup, WV_erE, szl]
    rfl
  obtain ⟨r, s, e, rfl, rfl⟩ := WV_ex key
  exact e
theorem wv_outE {E : Er → Sto → Prop} {m : Res Rv} {P : Rv → Sto → Prop} (h : WVe E m P) : (∃ r s, m = .ok r s ∧ P r s) ∨ ∃ e s, m = .er e s ∧ E e s := by
  cases m with
  | ok r s => exact .inl ⟨r, s, rfl, h⟩
  | er e s => exact .inr ⟨e, s, rfl, h⟩
  | no => exact h.elim
theorem WV_both {α : Type} {E E' : Er → Sto → Prop} {m : Res α} {P P' : α → Sto → Prop} (h : WVe E m P) (he : ∀ er s, E er s → E' er s) (hp : ∀ r s, P r s → P' r s) : WVe E' m P' := by
  cases m with
  | ok r s => exact hp r s h
  | er e s => exact he e s h
  | no => exact h
def tabLA : Cl := tabC "law" "law.<locals>.<lambda>"
/-- the call within the lambda does what o says -/
def Does (o : O4) (mb : Ev) (ρ : En) (st : Sto) : Prop := WVe (fun er s => o.er = some er ∧ s = st) (mb ((dOnly ρ).map (Option.map Fv.vl)) st) fun r s => (∃ d, o = .ret d ∧ r = .d d) ∧ s = st
theorem hear4 {st : Sto} {E : Er → Sto → Prop} {mb : Ev} {ρ : En} {o : O4} {Q : Rv → Sto → Prop} (hL : st[1]? = some tabLA) (hm : Does o mb ρ st) (hQ : Q (.d o.D) st) : WVe E (mLam 1 (Str.ofString "law") (Str.ofString "law.<locals>.<lambda>") sem__law_caught mb ρ st) Q := by
  have h : ∀ T, sem__law_caught T (fun s => mb ((dOnly ρ).map (Option.map Fv.vl)) s) [.o (.th T)] st = .ok (.d o.D) st := fun T => by
    rcases wv_outE hm with ⟨r, s, e, ⟨d, rfl, rfl⟩, rfl⟩ | ⟨er, s, e, h1, rfl⟩
    · exact caught_ret e
    · cases o with
      | ret d => cases h1
      | pol d => cases h1; exact caught_pol e
      | part d => cases h1; exact caught_part e
  refine W_mLam hL h ?_
  unfold back
  rw [List.take_of_length_le (Nat.le_refl _)]
  exact hQ
end K04
/-! L04c: another number. -/
namespace K04
open PySem L2 Cp
def tlD : Pol → List PyData
  | .call _ g b h => [spD g, spD b, .bool h]
  | .wait _ => []
  | .two _ _ b => [b.pd]
  | .num _ _ a b => [a.pd, b.pd]
  | .retry _ a => [a.pd]
  | .tmo _ a => [a.pd]
theorem pd_tl (r : Pol) : ∃ o, r.pd = .tuple (.str (Str.ofString r.kind) :: o :: tlD r) := by
  cases r with
  | two k a b => cases k <;> exact ⟨_, rfl⟩
  | num k n a b => cases k <;> exact ⟨_, rfl⟩
  | _ => exact ⟨_, rfl⟩
def nbX (r : Pol) (v : PyData) : PyData := .tuple (.str (Str.ofString r.kind) :: v :: tlD r)
theorem kind_num (r : Pol) : gIn true (.str (Str.ofString r.kind)) (.tuple [.str (Str.ofString "wait"), .str (Str.ofString "retry"), .str (Str.ofString "fallback"), .str (Str.ofString "timeout"), .str (Str.ofString "race"), .str (Str.ofString "hedge")]) = some (!isNumD r.pd) := by
  cases r with
  | two k a b => cases k <;> rfl
  | num k n a b => cases k <;> rfl
  | _ => rfl
theorem kind_no (r : Pol) : gIn true (.str (Str.ofString r.kind)) (.tuple [.str (Str.ofString "call"), .str (Str.ofString "then"), .str (Str.ofString "both")]) = some (isNumD r.pd) := by
  cases r with
  | two k a b => cases k <;> rfl
  | num k n a b => cases k <;> rfl
  | _ => rfl
/-- numbers as they are tried -/
structure N4 (v : PyData) : Prop where
  ok : okE v
  sz : siz v ≤ 1000
  dp : v.depth ≤ 3
theorem P4.sub {p r : Pol} {q : List Nat} (h : P4 p) (ha : p.at q = some r) : r.All Pol.Node ∧ Cp.siz r.pd ≤ 6000 ∧ r.pd.depth ≤ 10 := by
  have hn := at_node q ha h.v.nd
  have h1 : r.size ≤ p.size := by
    refine at_ind (C := fun q p r => r.size ≤ p.size) ?_ ?_ ?_ ?_ ?_ ?_ ?_ q ha
    · intro p; exact Nat.le_refl _
    all_goals (intros; simp only [Pol.size]; omega)
  have h2 := at_depth ha
  have h3 := Pol.siz_le hn
  have h4 := Pol.pd_depth r
  have := h.s
  have := h.d
  exact ⟨hn, by omega, by omega⟩
theorem fresh4 {p r : Pol} {q : List Nat} {v : PyData} (h : P4 p) (ha : p.at q = some r) (hv : N4 v) : V4 (nbX r v) := by
  obtain ⟨hn, h1, h2⟩ := h.sub ha
  have h3 := hv.sz
  have h4 := hv.dp
  have hok : okE r.pd := okE_of (Pol.okS hn)
  obtain ⟨o, ho⟩ := pd_tl r
  rw [ho] at hok h1 h2
  have hok : okE (.str (Str.ofString r.kind)) ∧ okE o ∧ okEs (tlD r) := hok
  have h1 : siz (.str (Str.ofString r.kind)) + 2 + (siz o + 2 + sizAll (tlD r)) + 3 ≤ 6000 := h1
  have h2 : max 0 (max o.depth (PyData.depthAll (tlD r))) + 1 ≤ 10 := h2
  refine ⟨⟨hok.1, hv.ok, hok.2.2⟩, ?_, ?_⟩
  · show siz (.str (Str.ofString r.kind)) + 2 + (siz v + 2 + sizAll (tlD r)) + 3 ≤ 70000
    omega
  · show max 0 (max v.depth (PyData.depthAll (tlD r))) + 1 ≤ 13
    omega
def oN (p : Pol) (q : List Nat) (v : PyData) : O4 := match p.at q with
  | none => .part (paD q)
  | some r => if isNumD r.pd = true then o4 p q (nbX r v) else .part (paD q)
theorem paD_siz {q : List Nat} (h : ∀ n ∈ q, n ≤ 5) (hl : q.length ≤ 30) : siz (paD q) ≤ 2000 := by
  have : ∀ l : List Nat, (∀ n ∈ l, n ≤ 5) → sizAll (l.map fun (n : Nat) => PyData.int (n : Int)) ≤ 60 * l.length := by
    intro l hl
    induction l with
    | nil => exact Nat.le_refl _
    | cons n l ih =>
      have h1 := ih fun m hm => hl m (List.mem_cons_of_mem _ hm)
      have h2 := siz_small (i := ((n : Nat) : Int)) ⟨by omega, by have := hl n List.mem_cons_self; omega⟩
      show siz (.int (n : Nat)) + 2 + sizAll _ ≤ _
      simp only [List.length_cons]
      omega
  have := this q h
  show sizAll (q.map fun (n : Nat) => PyData.int (n : Int)) + 3 ≤ _
  omega
theorem o4_ok {p : Pol} {q : List Nat} {x : PyData} (hp : P4 p) (hq : Sq q) (hx : V4 x) : okE (o4 p q x).d ∧ siz (o4 p q x).d ≤ 1000000 ∧ (o4 p q x).d.depth ≤ 50 := by
  unfold o4
  cases ha : p.at q with
  | none =>
    have h1 := paD_siz hq.1 hq.2
    have h2 := paD_dep q
    exact ⟨okE_of (d := paD q) (paD_oks hq.1), by show siz (paD q) ≤ _; omega, by show (paD q).depth ≤ _; omega⟩
  | some r =>
    obtain ⟨g1, g2, g3⟩ := found4 hp ha hx
    dsimp only
    split
    · exact ⟨g1.ok, by show siz (p.putX q x) ≤ _; omega, by show (p.putX q x).depth ≤ _; omega⟩
    · exact ⟨g1.ok, by show siz (p.putX q x) ≤ _; omega, by show (p.putX q x).depth ≤ _; omega⟩
theorem oN_ok {p : Pol} {q : List Nat} {v : PyData} (hp : P4 p) (hq : Sq q) (hv : N4 v) : okE (oN p q v).d ∧ siz (oN p q v).d ≤ 1000000 ∧ (oN p q v).d.depth ≤ 50 := by
  have h1 := paD_siz hq.1 hq.2
  have h2 := paD_dep q
  have hno : okE (O4.part (paD q)).d ∧ siz (O4.part (paD q)).d ≤ 1000000 ∧ (O4.part (paD q)).d.depth ≤ 50 := ⟨okE_of (d := paD q) (paD_oks hq.1), by show siz (paD q) ≤ _; omega, by show (paD q).depth ≤ _; omega⟩
  unfold oN
  cases ha : p.at q with
  | none => exact hno
  | some r =>
    dsimp only
    split
    · exact o4_ok hp hq (fresh4 hp ha hv)
    · exact hno
section
variable {st : Sto} {P : Rv → Sto → Prop} {E : Er → Sto → Prop} {p r : Pol} {q : List Nat} {x v : PyData}
theorem w_replO (hp : P4 p) (hx : V4 x) : WVe (fun er s => (o4 p q x).er = some er ∧ s = st) (semX_replaced [.d p.pd, .d (paD q), .d x] st) fun r s => (∃ d, o4 p q x = .ret d ∧ r = .d d) ∧ s = st := by
  refine w_repl4 hp hx (fun h0 => ?_) (fun r ha e => ?_) fun r ha e => ?_
  · unfold o4; rw [h0]; exact ⟨rfl, rfl⟩
  · unfold o4; rw [ha]; dsimp only; rw [if_pos e]; exact ⟨⟨_, rfl, rfl⟩, rfl⟩
  · unfold o4; rw [ha]; dsimp only; rw [if_neg (by rw [e]; decide)]; exact ⟨rfl, rfl⟩
theorem w_numO (hp : P4 p) (hv : N4 v) : WVe (fun er s => (oN p q v).er = some er ∧ s = st) (semX_with_number [.d p.pd, .d (paD q), .d v] st) fun r s => (∃ d, oN p q v = .ret d ∧ r = .d d) ∧ s = st := by
  unfold semX_with_number sbX_with_number
  rw [W_body]
  simp
  refine w_part_at _ (qpath_paD q) (fun r hr => ?_) (fun e => ?_)
  · rw [path_eq] at hr
    have key := w_replO (st := st) (q := q) hp (fresh4 hp hr hv)
    generalize semX_replaced = sem at key ⊢
    have hkn := kind_num r
    obtain ⟨o, ho⟩ := pd_tl r
    have hlt : (tlD r).length ≤ 3 := by cases r <;> simp [tlD]
    simp [ho, hkn, szl, Cp.cutD2]
    unfold oN
    rw [hr]
    dsimp only
    rw [ho]
    by_cases e : isNumD (.tuple (.str (Str.ofString r.kind) :: o :: tlD r)) = true
    · rw [if_pos e, if_pos e]
      refine ⟨by omega, ?_⟩
      refine WV_both key (fun er s h => ?_) fun r_1 s h => ?_
      · obtain ⟨h1, rfl⟩ := h
        exact ⟨h1, by simp⟩
      · obtain ⟨⟨d, h1, rfl⟩, rfl⟩ := h
        simp
        exact h1
    · rw [if_neg e, if_neg e]
      first | exact ⟨rfl, by simp⟩ | rfl | simp
  · rw [path_eq] at e
    unfold oN
    rw [e]
    exact ⟨rfl, by simp⟩
end
end K04
/-! L04d: the law's inner loops. -/
namespace K04
open PySem L2 Cp
/-- the lambda's table, the urn -/
structure Lk (s : Sto) (iu : Nat) (M : Int) : Prop where
  t : s[1]? = some tabLA
  i : 2 ≤ iu
  u : ∃ u, s[iu]? = some u ∧ Urn M u
theorem Lk.set {s : Sto} {iu : Nat} {M M' : Int} {u : Cl} (h : Lk s iu M) (hU : Urn M' u) : Lk (s.set iu u) iu M' := by
  obtain ⟨h1, h2, u0, h3, _⟩ := h
  exact ⟨by rw [List.getElem?_set_ne (by omega)]; exact h1, h2, u, List.getElem?_set_self (List.getElem?_eq_some_iff.mp h3).1, hU⟩
theorem Lk.app {s : Sto} {iu : Nat} {M : Int} (h : Lk s iu M) (t : Sto) : Lk (s ++ t) iu M := by
  obtain ⟨h1, h2, u, h3, h4⟩ := h
  exact ⟨by rw [List.getElem?_append_left (List.getElem?_eq_some_iff.mp h1).1]; exact h1, h2, u, by rw [List.getElem?_append_left (List.getElem?_eq_some_iff.mp h3).1]; exact h3, h4⟩
theorem Lk.mono {s : Sto} {iu : Nat} {M M' : Int} (h : Lk s iu M) (hm : M ≤ M') : Lk s iu M' := by
  obtain ⟨h1, h2, u, h3, h4⟩ := h
  exact ⟨h1, h2, u, h3, h4.mono hm⟩
noncomputable def rF : Sv := (sIf (mCmp gNe (mCal (g1 fRepr) (aCons (mV (mLam 1 "law" "law.<locals>.<lambda>" sem__law_caught (mCall sem_replaced (aCons (mV (mN 3)) (aCons (mV (mN 6)) (aCons (mV (mN 8)) aNil)))))) aNil)) (mCal (g1 fRepr) (aCons (mV (mCall sem__law_due (aCons (mV (mN 3)) (aCons (mV (mN 6)) (aCons (mV (mN 8)) aNil))))) aNil))) (sRet (mK (.bool false))) sNil)
noncomputable def rN1 : Sv := (sAsg (gNm 11) (mV (mTup (aCons (mV (mK (.str "part"))) (aCons (mV (mN 6)) aNil)))))
noncomputable def rN2 : Sv := (sIf (bAnd (mCmp (gInL false) (mN 6) (mN 4)) (mCmp (gIn true) (mBin fIx (mCall sem__law_part (aCons (mV (mN 3)) (aCons (mV (mN 6)) aNil))) (mK (.int 0))) (mTup (aCons (mV (mK (.str "call"))) (aCons (mV (mK (.str "then"))) (aCons (mV (mK (.str "both"))) aNil)))))) (sSeq (sAsg (gNm 8) (mV (mCall sem__law_part (aCons (mV (mN 3)) (aCons (mV (mN 6)) aNil))))) (sAsg (gNm 11) (mV (mCall sem__law_due (aCons (mV (mN 3)) (aCons (mV (mN 6)) (aCons (mV (mBin fAdd (mTup (aCons (mV (mBin fIx (mN 8) (mK (.int 0)))) (aCons (mV (mN 10)) aNil))) (mSl (mN 8) (oSome (mK (.int 2))) oNone))) aNil))))))) sNil)
noncomputable def rN3 : Sv := (sIf (mCmp gNe (mCal (g1 fRepr) (aCons (mV (mLam 1 "law" "law.<locals>.<lambda>" sem__law_caught (mCall sem_with_number (aCons (mV (mN 3)) (aCons (mV (mN 6)) (aCons (mV (mN 10)) aNil)))))) aNil)) (mCal (g1 fRepr) (aCons (mV (mN 11)) aNil))) (sRet (mK (.bool false))) sNil)
section
variable {st : Sto} {N B C : En → Sto → Prop} {R : Rv → Sto → Prop} {p : Pol} {q : List Nat} {x v : PyData} {x0 x1 x2 x4 x5 x7 x8 x9 x10 x11 : Option Vl}
theorem w_rF (hL : st[1]? = some tabLA) (hp : P4 p) (hq : Sq q) (hx : V4 x) (hN : N [x0, x1, x2, some (.d p.pd), x4, x5, some (.d (paD q)), x7, some (.d x), x9, x10, x11] st) :
    WSe noE (rF [x0, x1, x2, some (.d p.pd), x4, x5, some (.d (paD q)), x7, some (.d x), x9, x10, x11] st) N B C R := by
  obtain ⟨a1, a2, a3⟩ := o4_ok hp hq hx
  obtain ⟨r1, r2⟩ := O4.rep a1 a2 a3
  unfold rF
  rw [eRe]
  simp
  refine hear4 (o := o4 p q x) hL ?_ ?_
  · unfold Does
    simp [dOnly]
    refine WV_both (w_replO (st := st) hp hx) (fun er s h => ?_) fun r s h => ?_
    · obtain ⟨h1, rfl⟩ := h
      exact ⟨h1, by simp⟩
    · obtain ⟨⟨d, h1, rfl⟩, rfl⟩ := h
      simp
      exact h1
  · simp [r1]
    refine w_due4 hp hq.1 hx ?_
    rw [due_o4]
    simp [r1, gNe_same r2]
    exact hN
theorem w_rN (hL : st[1]? = some tabLA) (hp : P4 p) (hq : Sq q) (hv : N4 v) (hN : ∀ x8', N [x0, x1, x2, some (.d p.pd), some (.d (.list (p.paths.map paD))), x5, some (.d (paD q)), x7, x8', x9, some (.d v), some (.d (oN p q v).D)] st) :
    WSe noE (sSeq rN1 (sSeq rN2 rN3) [x0, x1, x2, some (.d p.pd), some (.d (.list (p.paths.map paD))), x5, some (.d (paD q)), x7, x8, x9, some (.d v), x11] st) N B C R := by
  obtain ⟨a1, a2, a3⟩ := oN_ok hp hq hv
  obtain ⟨r1, r2⟩ := O4.rep a1 a2 a3
  have hz2 : 2 ≤ sizeLine := by rw [szl]; decide
  have hz3 : 3 ≤ sizeLine := by rw [szl]; decide
  refine seq_cut (fun ρ s => st = s ∧ ρ = [x0, x1, x2, some (.d p.pd), some (.d (.list (p.paths.map paD))), x5, some (.d (paD q)), x7, x8, x9, some (.d v), some (.d (O4.part (paD q)).D)]) ?_ ?_
  · unfold rN1
    simp [hz2]
    rfl
  rintro ρ s ⟨rfl, rfl⟩
  refine seq_cut (fun ρ s => st = s ∧ ∃ x8', ρ = [x0, x1, x2, some (.d p.pd), some (.d (.list (p.paths.map paD))), x5, some (.d (paD q)), x7, x8', x9, some (.d v), some (.d (oN p q v).D)]) ?_ ?_
  · unfold rN2
    rw [ePt]
    simp [in_paths false p hq.1]
    cases ha : p.at q with
    | none =>
      have eN : oN p q v = .part (paD q) := by unfold oN; rw [ha]
      simp [eN]
    | some r =>
      have hw : walkP p (q.map fun (n : Nat) => PyData.int (n : Int)) = some r := by
        have := path_eq p q
        rw [ha] at this
        exact this
      have hkn := kind_no r
      obtain ⟨o, ho⟩ := pd_tl r
      have hlt : (tlD r).length ≤ 3 := by cases r <;> simp [tlD]
      simp
      refine w_part hw ?_
      simp [ho, hkn, hz3]
      have eN : oN p q v = if isNumD r.pd = true then o4 p q (nbX r v) else .part (paD q) := by unfold oN; rw [ha]
      rw [eN, ho]
      by_cases e : isNumD (.tuple (.str (Str.ofString r.kind) :: o :: tlD r)) = true
      · rw [if_pos e, if_pos e]
        refine w_part hw ?_
        simp [ho, hz2, Cp.cutD2]
        refine ⟨by rw [szl]; omega, ?_⟩
        refine w_due4 (x := nbX r v) hp hq.1 (fresh4 hp ha hv) ?_
        rw [due_o4]
        simp
      · rw [if_neg e, if_neg e]
  rintro ρ s ⟨rfl, x8', rfl⟩
  unfold rN3
  rw [eWn]
  simp
  refine hear4 (o := oN p q v) hL ?_ ?_
  · unfold Does
    simp [dOnly]
    refine WV_both (w_numO (st := st) hp hv) (fun er s2 h => ?_) fun r s2 h => ?_
    · obtain ⟨h1, rfl⟩ := h
      exact ⟨h1, by simp⟩
    · obtain ⟨⟨d, h1, rfl⟩, rfl⟩ := h
      simp
      exact h1
  · simp [r1, gNe_same r2]
    exact hN x8'
end
end K04
namespace K04
open PySem L2 Cp
noncomputable def bOthers : Sv := (sAsg (gNm 7) (mVc (mLst (aCons (mV (mCall sem__law_part (aCons (mV (mN 3)) (aCons (mV (mCall sem__law_of (aCons (mVc (mN 2)) (aCons (mV (mN 4)) aNil)))) aNil)))) (aCons (mV (mTup (aCons (mV (mK (.str "wait"))) (aCons (mV (mK (.int 4))) aNil)))) (aCons (mV (mTup (aCons (mV (mK (.str "timeout"))) (aCons (mV (mK (.int 1))) (aCons (mV (mTup (aCons (mV (mK (.str "wait"))) (aCons (mV (mK (.int 4))) aNil)))) aNil))))) (aCons (mV (mK .none)) (aCons (mV (mK (.str "wait"))) aNil))))))))
noncomputable def bBent : Sv := (sExp (mApp (mN 7) (mCall (sem__law_bent 20) (aCons (mVc (mN 2)) (aCons (mV (mTup (aCons (mV (mK (.str "race"))) (aCons (mV (mK (.int 1))) (aCons (mV (mTup (aCons (mV (mK (.str "wait"))) (aCons (mV (mK (.int 2))) aNil)))) (aCons (mV (mTup (aCons (mV (mK (.str "wait"))) (aCons (mV (mK (.int 3))) aNil)))) aNil)))))) aNil)))))
noncomputable def bNums : Sv := (sAsg (gNm 9) (mV (mLst (aCons (mV (mK .none)) (aCons (mV (mK (.int 0))) (aCons (mV (mK (.int 7))) (aCons (mV (mNeg (mK (.int 1)))) (aCons (mV (mK (.bool true))) (aCons (mV (mTup aNil)) (aCons (mV (mTup (aCons (mV (mK (.int 1))) (aCons (mV (mK (.int 2))) aNil)))) (aCons (mV (mTup (aCons (mV (mK (.int 1))) (aCons (mV (mK .none)) aNil)))) (aCons (mV (mLst (aCons (mV (mK (.int 1))) aNil))) (aCons (mV (mK (.str "5"))) (aCons (mV (mBin fAdd (mBin (fI pPow fun i j => i ^ j.toNat) (mK (.int 10)) (mK (.int 9))) (mK (.int 1)))) (aCons (mV (mBin fMulA (mTup (aCons (mV (mK (.int 0))) aNil)) (mK (.int 6)))) aNil)))))))))))))))
noncomputable def bPath : Sv := sSeq bOthers (sSeq bBent (sSeq (sFor (iOf (mN 7)) (gNm 8) rF) (sSeq bNums (sFor (iOf (mN 9)) (gNm 10) (sSeq rN1 (sSeq rN2 rN3))))))
noncomputable def iPath : En → Sto → Res Src := (iOf (mBin fAdd (mN 4) (mLst (aCons (mV (mTup (aCons (mV (mK (.int 2))) aNil))) (aCons (mV (mBin fMulA (mTup (aCons (mV (mK (.int 0))) aNil)) (mK (.int 9)))) (aCons (mV (mBin fAdd (mBin fIx (mN 4) (mNeg (mK (.int 1)))) (mTup (aCons (mV (mK (.int 1))) aNil)))) aNil))))))
noncomputable def bEnd : Sv := (sIf (mCmp gNe (mCal (g1 fRepr) (aCons (mV (mN 3)) aNil)) (mN 5)) (sRet (mK (.bool false))) sNil)
theorem sb_law4 : sb_law = (sSeq (sFor (iRg1 (aCons (mV (mCal (gII (fun i j => if j > i then j else i)) (aCons (mV (mK (.int 1))) (aCons (mV (mCal (gII (fun i j => if j < i then j else i)) (aCons (mV (mK (.int 3))) (aCons (mV (mCal (gLen) (aCons (mV (mN 0)) aNil))) aNil)))) aNil)))) aNil)) (gNm 1) (sSeq (sAsg (gNm 2) (mVc (mCall sem__law_urn (aCons (mV (mN 0)) (aCons (mV (mN 1)) aNil))))) (sSeq (sAsg (gNm 3) (mV (mCall sem__law_policy (aCons (mVc (mN 2)) (aCons (mV (mK (.int 12))) (aCons (mV (mK (.int 6))) aNil)))))) (sSeq (sPar [4, 5] (aCons (mV (mCall (sem__law_all_paths 25) (aCons (mV (mN 3)) aNil))) (aCons (mV (mCal (g1 fRepr) (aCons (mV (mN 3)) aNil))) aNil))) (sSeq (sFor iPath (gNm 6) bPath) bEnd))))) (sRet (mK (.bool true)))) := rfl
def numL : List PyData := [.none, .int 0, .int 7, .int (-1), .bool true, .tuple [], .tuple [.int 1, .int 2], .tuple [.int 1, .none], .list [.int 1], .str (Str.ofString "5"), .int 1000000001, .tuple [.int 0, .int 0, .int 0, .int 0, .int 0, .int 0]]
def n4B (v : PyData) : Bool := decide (siz v ≤ 1000) && (decide (v.depth ≤ 3) && smB 1000000001 v)
theorem num_ok : ∀ v ∈ numL, N4 v := by
  have : (numL.all n4B) = true := by decide +kernel
  intro v hv
  have := List.all_eq_true.mp this v hv
  unfold n4B at this
  simp only [Bool.and_eq_true, decide_eq_true_eq] at this
  exact ⟨smB_ok (B := 1000000001) (by decide) this.2.2, this.1, this.2.1⟩
def fixL : List PyData := [.tuple [.str (Str.ofString "wait"), .int 4], .tuple [.str (Str.ofString "timeout"), .int 1, .tuple [.str (Str.ofString "wait"), .int 4]], .none, .str (Str.ofString "wait")]
theorem fix_ok : ∀ v ∈ fixL, V4 v := by
  have : (fixL.all n4B) = true := by decide +kernel
  intro v hv
  have := List.all_eq_true.mp this v hv
  unfold n4B at this
  simp only [Bool.and_eq_true, decide_eq_true_eq] at this
  exact ⟨smB_ok (B := 1000000001) (by decide) this.2.2, by omega, by omega⟩
theorem part_ok {p r : Pol} {q : List Nat} (h : P4 p) (ha : p.at q = some r) : V4 r.pd := by
  obtain ⟨hn, h1, h2⟩ := h.sub ha
  exact ⟨okE_of (Pol.okS hn), by omega, by omega⟩
section
variable {st : Sto} {iu : Nat} {M : Int} {N B C : En → Sto → Prop} {R : Rv → Sto → Prop} {p : Pol} {q : List Nat} {x0 x1 x5 x7 x8 x9 x10 x11 : Option Vl}
def I1 (st : Sto) (iu : Nat) (M : Int) (e : En) (n : Nat) (ρ : En) (s : Sto) : Prop := ∃ u l, Urn (M + 20 * n) u ∧ (∀ v ∈ l, V4 v) ∧ l.length = n ∧ s = st.set iu u ++ [.l l] ∧ ρ = e
theorem w_bPath (hk : Lk st iu M) (hm : M < 2 ^ 150) (hp : P4 p) (hq : Sq q)
    (hN : ∀ u t x7 x8 x9 x10 x11, Lk (st.set iu u ++ t) iu (M + 200) → N [x0, x1, some (.c iu), some (.d p.pd), some (.d (.list (p.paths.map paD))), x5, some (.d (paD q)), x7, x8, x9, x10, x11] (st.set iu u ++ t)) :
    WSe noE (bPath [x0, x1, some (.c iu), some (.d p.pd), some (.d (.list (p.paths.map paD))), x5, some (.d (paD q)), x7, x8, x9, x10, x11] st) N B C R := by
  obtain ⟨u, hu, hU⟩ := hk.u
  have hi : iu < st.length := (List.getElem?_eq_some_iff.mp hu).1
  have hz2 : ∀ n, n ≤ 100 → n ≤ sizeLine := fun n hn => by rw [szl]; omega
  have hsets : ∀ (c : Cl), (st.set iu c)[iu]? = some c := fun c => List.getElem?_set_self hi
  have hps : p.paths ≠ [] := by cases p <;> simp [Pol.paths]
  have hpl : p.paths.length ≤ 1000 := by rw [Pol.paths_len]; have := hp.s; omega
  unfold bPath
  refine seq_cut (I1 st iu M [x0, x1, some (.c iu), some (.d p.pd), some (.d (.list (p.paths.map paD))), x5, some (.d (paD q)), some (.c st.length), x8, x9, x10, x11] 5) ?_ ?_
  · unfold bOthers
    rw [ePt, eO]
    simp
    refine w_of (xs := p.paths.map paD) hu hU (by omega) (by simpa using hps) (by rw [List.length_map, szl]; omega) fun d u1 hd hU1 => ?_
    obtain ⟨q0, hq0, rfl⟩ := List.mem_map.mp hd
    obtain ⟨r0, hr0⟩ := paths_at p q0 hq0
    simp
    have hw : walkP p (q0.map fun (n : Nat) => PyData.int (n : Int)) = some r0 := by
      have := path_eq p q0
      rw [hr0] at this
      exact this
    refine w_part hw ?_
    simp [hz2]
    refine ⟨u1, r0.pd :: fixL, hU1.mono (by omega), ?_, rfl, rfl, rfl⟩
    intro v hv
    rcases List.mem_cons.mp hv with rfl | hv
    · exact part_ok hp hr0
    · exact fix_ok v hv
  rintro ρ s ⟨u1, l1, hU1, hl1, hn1, rfl, rfl⟩
  have hlen : (st.set iu u1).length = st.length := List.length_set
  have hg1 : ∀ (u c : Cl), (st.set iu u ++ [c])[iu]? = some u := fun u c => by
    rw [List.getElem?_append_left (by rw [List.length_set]; exact hi)]; exact hsets u
  have hg2 : ∀ (u c : Cl), (st.set iu u ++ [c])[st.length]? = some c := fun u c => by
    have : st.length = (st.set iu u).length := List.length_set.symm
    rw [this]; simp
  have hs1 : ∀ (u u' c : Cl), (st.set iu u ++ [c]).set iu u' = st.set iu u' ++ [c] := fun u u' c => by
    rw [List.set_append_left _ _ (by rw [List.length_set]; exact hi), List.set_set]
  have hs2 : ∀ (u c c' : Cl), (st.set iu u ++ [c]).set st.length c' = st.set iu u ++ [c'] := fun u c c' => by
    have : st.length = (st.set iu u).length := List.length_set.symm
    rw [this]; simp
  refine seq_cut (I1 st iu M [x0, x1, some (.c iu), some (.d p.pd), some (.d (.list (p.paths.map paD))), x5, some (.d (paD q)), some (.c st.length), x8, x9, x10, x11] 6) ?_ ?_
  · unfold bBent
    rw [eBe]
    have hd1 : smB 10 (.tuple [.str (Str.ofString "race"), .int 1, .tuple [.str (Str.ofString "wait"), .int 2], .tuple [.str (Str.ofString "wait"), .int 3]]) = true := by decide +kernel
    have hd2 : siz (.tuple [.str (Str.ofString "race"), .int 1, .tuple [.str (Str.ofString "wait"), .int 2], .tuple [.str (Str.ofString "wait"), .int 3]]) ≤ 400 := by decide +kernel
    have hd3 : (PyData.tuple [.str (Str.ofString "race"), .int 1, .tuple [.str (Str.ofString "wait"), .int 2], .tuple [.str (Str.ofString "wait"), .int 3]]).depth = 2 := by decide +kernel
    simp [hg2, hz2]
    obtain ⟨D, hD⟩ : ∃ D, D = PyData.tuple [.str (Str.ofString "race"), .int 1, .tuple [.str (Str.ofString "wait"), .int 2], .tuple [.str (Str.ofString "wait"), .int 3]] := ⟨_, rfl⟩
    rw [← hD] at hd1 hd2 hd3 ⊢
    refine w_bentY (bb := 10) 20 (by decide) hd1 (by omega) (by omega) (by omega) (hg1 u1 _) hU1 (by omega) fun v u2 hv hU2 => ?_
    rw [hs1]
    have hvd := hv.dp
    have hvz := hv.sz
    simp [hg2, hs2]
    refine ⟨by rw [szl]; omega, u2, l1 ++ [v], hU2.mono (by rw [hd3]; omega), ?_, by simp [hn1], by simp, rfl⟩
    intro w hw
    rcases List.mem_append.mp hw with hw | hw
    · exact hl1 w hw
    · have : w = v := by simpa using hw
      rw [this]
      exact ⟨smB_ok (by decide) hv.sm, by omega, by omega⟩
  rintro ρ s ⟨u2, l2, hU2, hl2, hn2, rfl, rfl⟩
  have hk2 : Lk (st.set iu u2 ++ [.l l2]) iu (M + 200) := (hk.set hU2).app _ |>.mono (by omega)
  refine seq_cut (fun ρ s => (st.set iu u2 ++ [.l l2]) = s ∧ ∃ x8', ρ = [x0, x1, some (.c iu), some (.d p.pd), some (.d (.list (p.paths.map paD))), x5, some (.d (paD q)), some (.c st.length), x8', x9, x10, x11]) ?_ ?_
  · rw [W_sFor, W_iOf, W_mN]
    rw [show ([x0, x1, some (.c iu), some (.d p.pd), some (.d (.list (p.paths.map paD))), x5, some (.d (paD q)), some (.c st.length), x8, x9, x10, x11] : En)[7]? = some (some (.c st.length)) from rfl, WO_some, WO_some]
    have hsr : srcOf (st.set iu u2 ++ [.l l2]) (frz (Rv.of (.c st.length))) = some (l2, some (st.length, l2)) := by
      show (match (st.set iu u2 ++ [.l l2])[st.length]? with
        | some (.l xs) => some (xs, some (st.length, xs))
        | _ => none) = _
      rw [hg2]
    rw [hsr, WO_some]
    refine forGo_by (I := fun j ρ s => (st.set iu u2 ++ [.l l2]) = s ∧ ∃ x8', ρ = [x0, x1, some (.c iu), some (.d p.pd), some (.d (.list (p.paths.map paD))), x5, some (.d (paD q)), some (.c st.length), x8', x9, x10, x11]) _ 0 ⟨rfl, _, rfl⟩ ?_ ?_ ?_
    · rintro j ρ s ⟨rfl, x8', rfl⟩
      exact hg2 _ _
    · rintro j d ρ s hd ⟨rfl, x8', rfl⟩
      rw [W_gNm]
      refine w_rF hk2.t hp hq (hl2 d (List.mem_of_getElem? hd)) ?_
      exact ⟨rfl, _, rfl⟩
    · rintro ρ s ⟨rfl, x8', rfl⟩
      exact ⟨rfl, _, rfl⟩
  rintro ρ s ⟨rfl, x8', rfl⟩
  refine seq_cut (fun ρ s => (st.set iu u2 ++ [.l l2]) = s ∧ ρ = [x0, x1, some (.c iu), some (.d p.pd), some (.d (.list (p.paths.map paD))), x5, some (.d (paD q)), some (.c st.length), x8', some (.d (.list numL)), x10, x11]) ?_ ?_
  · unfold bNums
    have h1 : pPow 10 9 = true := by decide
    have h2 : fMulA (.tuple [.int 0]) (.int 6) = some (.d (.tuple [.int 0, .int 0, .int 0, .int 0, .int 0, .int 0])) := rfl
    simp [hz2, h1, h2]
    rfl
  rintro ρ s ⟨rfl, rfl⟩
  rw [W_sFor]
  simp
  refine forGo_by (I := fun j ρ s => (st.set iu u2 ++ [.l l2]) = s ∧ ∃ x8 x10 x11, ρ = [x0, x1, some (.c iu), some (.d p.pd), some (.d (.list (p.paths.map paD))), x5, some (.d (paD q)), some (.c st.length), x8, some (.d (.list numL)), x10, x11]) _ 0 ⟨rfl, _, _, _, rfl⟩ (fun _ _ _ _ => trivial) ?_ ?_
  · rintro j d ρ s hd ⟨rfl, x8, x10, x11, rfl⟩
    rw [W_gNm]
    refine w_rN hk2.t hp hq (num_ok d (List.mem_of_getElem? hd)) fun x8' => ?_
    exact ⟨rfl, _, _, _, rfl⟩
  · rintro ρ s ⟨rfl, x8, x10, x11, rfl⟩
    exact hN u2 [.l l2] _ _ _ _ _ hk2
end
theorem rep_pol {p : Pol} (h : P4 p) : fRepr p.pd = some (.d (.str p.pd.shown)) ∧ SeqAt.shaped (.str p.pd.shown) = true := by
  have ok : okS p.pd := Pol.okS h.v.nd
  have h1 := h.siz
  have h3 := h.dep
  exact ⟨fRepr_at ok (by rw [szl]; omega) (by omega), shaped_ok (d := .str p.pd.shown) (shown_sgn ok) (Nat.zero_le _)⟩
theorem paD_app (a b : List Nat) : fAdd (paD a) (paD b) = if a.length + b.length ≤ sizeLine then some (.d (paD (a ++ b))) else none := by
  show fAdd (.tuple (a.map fun (n : Nat) => PyData.int (n : Int))) (.tuple (b.map fun (n : Nat) => PyData.int (n : Int))) = _
  rw [fAdd_t, List.length_map, List.length_map, ← List.map_append]
  rfl
def morePaths (p : Pol) (l : List Nat) : List (List Nat) := p.paths ++ [[2], [0, 0, 0, 0, 0, 0, 0, 0, 0], l ++ [1]]
theorem more_ok {p : Pol} (h : P4 p) {l : List Nat} (hl : l ∈ p.paths) : ∀ q ∈ morePaths p l, Sq q := by
  have hp : ∀ q ∈ p.paths, (∀ n ∈ q, n ≤ 5) ∧ q.length < 25 := fun q hq => by
    obtain ⟨r, hr⟩ := paths_at p q hq
    exact ⟨at_small hr, qlen h hr⟩
  intro q hq
  rcases List.mem_append.mp hq with hq | hq
  · exact ⟨(hp q hq).1, by have := (hp q hq).2; omega⟩
  · simp only [List.mem_cons, List.not_mem_nil, or_false] at hq
    rcases hq with rfl | rfl | rfl
    · exact ⟨by decide, by decide⟩
    · exact ⟨by decide, by decide⟩
    · refine ⟨fun n hn => ?_, by have := (hp l hl).2; rw [List.length_append]; simp; omega⟩
      rcases List.mem_append.mp hn with hn | hn
      · exact (hp l hl).1 n hn
      · have : n = 1 := by simpa using hn
        omega
section
variable {st : Sto} {N B C : En → Sto → Prop} {R : Rv → Sto → Prop} {p : Pol} {x0 x1 x2 x5 x6 x7 x8 x9 x10 x11 : Option Vl}
theorem w_iPath {PI : Src → Sto → Prop} (hp : P4 p) (h : ∀ l, l ∈ p.paths → PI ((morePaths p l).map paD, none) st) : WVe noE (iPath [x0, x1, x2, some (.d p.pd), some (.d (.list (p.paths.map paD))), x5, x6, x7, x8, x9, x10, x11] st) PI := by
  have hps : p.paths ≠ [] := by cases p <;> simp [Pol.paths]
  have hpl : p.paths.length ≤ 12 := by rw [Pol.paths_len]; exact hp.s
  have hz2 : ∀ n, n ≤ 100 → n ≤ sizeLine := fun n hn => by rw [szl]; omega
  obtain ⟨a, l, hal⟩ : ∃ a l, p.paths = a ++ [l] := ⟨_, _, (List.dropLast_concat_getLast hps).symm⟩
  have hl : l ∈ p.paths := by rw [hal]; simp
  have h9 : fMulA (.tuple [.int 0]) (.int 9) = some (.d (paD [0, 0, 0, 0, 0, 0, 0, 0, 0])) := rfl
  have hix : L2.atI (p.paths.map paD) (-1) = some (paD l) := by
    rw [hal, List.map_append]
    unfold L2.atI
    have e : L2.ixN (a.map paD ++ [l].map paD).length (-1) = some a.length := by
      unfold L2.ixN
      simp
      omega
    rw [e]
    simp
  have hll : l.length < 25 := by
    obtain ⟨r, hr⟩ := paths_at p l hl
    exact qlen hp hr
  have ha : fAdd (paD l) (.tuple [.int 1]) = some (.d (paD (l ++ [1]))) := by
    have := paD_app l [1]
    rw [if_pos (by rw [szl]; simp; omega)] at this
    exact this
  unfold iPath
  simp [h9, hix, ha, hz2]
  refine ⟨by rw [szl]; omega, ?_⟩
  have e : (morePaths p l).map paD = p.paths.map paD ++ [PyData.tuple [.int 2], paD [0, 0, 0, 0, 0, 0, 0, 0, 0], paD (l ++ [1])] := by
    unfold morePaths
    rw [List.map_append]
    rfl
  have := h l hl
  rw [e] at this
  exact this
end
def st0 : Sto := [heapC [], tabLA]
def Iu (s : Sto) (M : Int) (e : En) (ρ : En) (s' : Sto) : Prop := ∃ u, Urn M u ∧ s' = s ++ [u] ∧ ρ = e
theorem w_law {ns : List Int} (hl : ns.length ≤ 63) : WVe noE (sem_law [.s ns] st0) fun r _ => r = .d (.bool true) := by
  unfold sem_law
  rw [sb_law4, W_body, eU, ePo, eAp]
  refine ⟨rfl, ?_⟩
  have hn : ∃ n : Int, (if 1 < if (ns.length : Int) < 3 then (ns.length : Int) else 3 then if (ns.length : Int) < 3 then (ns.length : Int) else 3 else 1) = n ∧ 0 ≤ n ∧ n ≤ 3 := ⟨_, rfl, by split <;> split <;> omega, by split <;> split <;> omega⟩
  obtain ⟨n, e, n0, n2⟩ := hn
  refine seq_cut (fun ρ s => True) ?_ ?_
  · rw [W_sFor]
    simp
    rw [e]
    refine ⟨rOk_of2 (by decide) (by decide) (by omega) (by omega), ?_⟩
    refine forGo_by (I := fun j ρ s => s[1]? = some tabLA ∧ ∃ x1 x2 x3 x4 x5 x6 x7 x8 x9 x10 x11, ρ = [some (.s ns), x1, x2, x3, x4, x5, x6, x7, x8, x9, x10, x11]) _ 0 ⟨rfl, _, _, _, _, _, _, _, _, _, _, _, rfl⟩ (fun _ _ _ _ => trivial) ?_ ?_
    · rintro j d ρ s hd ⟨hT, x1, x2, x3, x4, x5, x6, x7, x8, x9, x10, x11, rfl⟩
      obtain ⟨rfl, hj⟩ := rngD_get hd
      have hsl : 2 ≤ s.length := by have := (List.getElem?_eq_some_iff.mp hT).1; omega
      rw [W_gNm]
      refine seq_cut (Iu s 0 [some (.s ns), some (.d (.int (0 + (j : Int)))), some (.c s.length), x3, x4, x5, x6, x7, x8, x9, x10, x11]) ?_ ?_
      · simp
        refine w_urn (by omega) (by omega) fun u hU => ?_
        simp
        exact ⟨u, hU, rfl, by simp⟩
      rintro ρ s' ⟨u, hU, rfl, rfl⟩
      have hg : ∀ c : Cl, (s ++ [c])[s.length]? = some c := fun c => by simp
      have hs : ∀ c c' : Cl, (s ++ [c]).set s.length c' = s ++ [c'] := fun c c' => by simp
      have hT1 : ∀ c : Cl, (s ++ [c])[1]? = some tabLA := fun c => by rw [List.getElem?_append_left (by omega)]; exact hT
      refine seq_cut (fun ρ s' => ∃ p u2, P4 p ∧ Urn 1000 u2 ∧ s' = s ++ [u2] ∧ ρ = [some (.s ns), some (.d (.int (0 + (j : Int)))), some (.c s.length), some (.d p.pd), x4, x5, x6, x7, x8, x9, x10, x11]) ?_ ?_
      · simp
        refine w_policy (hg u) hU (by decide) (by decide) (by decide) (by omega) (by omega) fun p stem u3 hb hsz hd hl hst hU3 => ?_
        have hv := valid_drawn (by decide) hb (by omega) (by omega) hl hst
        rw [hs]
        simp
        exact ⟨p, ⟨hv, by omega, by omega⟩, u3, hU3.mono (by omega), rfl, rfl⟩
      rintro ρ s' ⟨p, u2, hp, hU2, rfl, rfl⟩
      obtain ⟨r1, r2⟩ := rep_pol hp
      refine seq_cut (fun ρ s' => s' = s ++ [u2] ∧ ρ = [some (.s ns), some (.d (.int (0 + (j : Int)))), some (.c s.length), some (.d p.pd), some (.d (.list (p.paths.map paD))), some (.d (.str p.pd.shown)), x6, x7, x8, x9, x10, x11]) ?_ ?_
      · simp
        refine w_all_paths 25 (by have := hp.d; omega) (by have := hp.s; omega) (by have := hp.d; omega) ?_
        simp [r1]
      rintro ρ s' ⟨rfl, rfl⟩
      have hk : Lk (s ++ [u2]) s.length 1000 := ⟨hT1 u2, hsl, u2, hg u2, hU2⟩
      refine seq_cut (fun ρ s' => s'[1]? = some tabLA ∧ ∃ x2 x6 x7 x8 x9 x10 x11, ρ = [some (.s ns), some (.d (.int (0 + (j : Int)))), x2, some (.d p.pd), some (.d (.list (p.paths.map paD))), some (.d (.str p.pd.shown)), x6, x7, x8, x9, x10, x11]) ?_ ?_
      · rw [W_sFor]
        refine w_iPath hp fun l hl => ?_
        refine forGo_by (I := fun k ρ s' => Lk s' s.length (1000 + 200 * (k : Int)) ∧ ∃ x6 x7 x8 x9 x10 x11, ρ = [some (.s ns), some (.d (.int (0 + (j : Int)))), some (.c s.length), some (.d p.pd), some (.d (.list (p.paths.map paD))), some (.d (.str p.pd.shown)), x6, x7, x8, x9, x10, x11]) _ 0 ⟨hk.mono (by omega), _, _, _, _, _, _, rfl⟩ (fun _ _ _ _ => trivial) ?_ ?_
        · rintro k d ρ s' hd ⟨hk2, x6, x7, x8, x9, x10, x11, rfl⟩
          rw [List.getElem?_map] at hd
          obtain ⟨q, hq, rfl⟩ := Option.map_eq_some_iff.mp hd
          have hkl : k < 15 := by
            have h1 := (List.getElem?_eq_some_iff.mp hq).1
            unfold morePaths at h1
            rw [List.length_append, Pol.paths_len] at h1
            have := hp.s
            simp at h1
            omega
          rw [W_gNm]
          refine w_bPath hk2 (by omega) hp (more_ok hp hl q (List.mem_of_getElem? hq)) fun u t x7 x8 x9 x10 x11 hk3 => ?_
          exact ⟨hk3.mono (by omega), _, _, _, _, _, _, rfl⟩
        · rintro ρ s' ⟨hk2, x6, x7, x8, x9, x10, x11, rfl⟩
          exact ⟨hk2.t, _, _, _, _, _, _, _, rfl⟩
      rintro ρ s' ⟨hT2, x2, x6, x7, x8, x9, x10, x11, rfl⟩
      unfold bEnd
      simp [r1, gNe_same r2]
      exact hT2
    · rintro ρ s hI
      trivial
  rintro ρ s _
  simp
theorem sem_true (ns : List Int) (hl : ns.length ≤ 63) : ∃ st, sem_law [.s ns] st0 = .ok (.d (.bool true)) st := by
  obtain ⟨r, s, e, rfl⟩ := WV_ex (w_law hl)
  exact ⟨s, e⟩
end K04
open PySem PySem.W PySem.Calls PyProof.Rows in
theorem PySem.Challenge.cw_callpolicy_k04_parts_and_numbers_replace_holds : PySem.Challenge.rw_callpolicy_k04_parts_and_numbers_replace.Holds := by
  w_on; o_law
  o_head (Cp.hookRL 700 K04.fa K04.fn K04.ts K04.tb)
  case hw => w_witness2
  case hc =>
    refine Cp.law_walkT (tb := K04.tb) (l := PySem.Challenge.rw_callpolicy_k04_parts_and_numbers_replace) (n := 63) (k := 32) (x := "_law_script") (sem := K04.sem_law) rfl (by decide) (by kernel_rfl) (Cp.law_room (by decide)) ?F K04.sem_true
    intro w mg fa h Y G hmg0
    obtain ⟨K, KX, c⟩ := Y
    have hmg : mg ("law" : PySem.Str) = some (.ref fa) := by
      have e : (HandSHeadRun.topDef (OpenLaw.row PySem.Challenge.rw_callpolicy_k04_parts_and_numbers_replace).prog 60).name = ("law" : PySem.Str) := by kernel_rfl
      rw [← e]
      exact hmg0
    obtain ⟨fd, hb, hF⟩ := K04.facts (P := (PySem.Challenge.rw_callpolicy_k04_parts_and_numbers_replace).prog) (w := w) KX G hmg c
    exact ⟨K, fd, KX, c.empty, c.out, c.hd, c.nd, hb, hF⟩
