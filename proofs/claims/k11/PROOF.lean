import PyProof.Rows.All
import Wide.All
import OpenK.AllK
import Wide.FinOn
import HandS.ForMost
import HandS.Exc
import HandS.HeadHook1
import HandS.HeadHook4
import HandS.Lambda
import KE.KDictKeyed
import HandS.TupAny
import HandS.Style
import HandS.Deep
import HandS.Wide
import HandS.TupMul
import HandS.SortRule
import HandS.SortInts
import HandS.Conv
import KE.SortData
import PyProof.RowDictHeap
import PyProof.ReprRoads
import PyProof.CallFns
import HandS.Zip
import HandS.ForExc
import HandS.Defaults
import HandS.HeadHook2
import HandS.HeadEnd
import PyProof.Draws
import PyProof.StrBlock2
import KE.GoesMore
import HandS.Text
import HandS.SetFor
import PyProof.StrLaws
import PyProof.StrLawsRepr
import PyProof.FitsInt
import PyProof.ReprReads
import HandS.IsInst
import HandS.Dict
import HandS.TryOnly
import HandS.ExcOwn
import HandS.ExcInit
import HandS.ExcValue
import HandS.ExcIs
import HandS.ExcField
import KE.KExcIs
import KE.KRevSl
import HandS.HeadHook3
import HandS.More
import PyProof.DictUpdate
import KE.KDictPairs
import HandS.Steps
import KE.KLam
import HandS.Base
import HandS.EndTab
import KE.KDictZip
import HandS.Call
import HandS.Head0
import HandS.Head1
import HandS.Head2
import HandS.Ends
import HandS.Words
import HandS.WordsExc
import KE.KStateDown
import PySem.Challenge.RW_callpolicy_k11_policies_relabelled
set_option Elab.async false
set_option linter.all false
set_option maxRecDepth 100000
set_option maxHeartbeats 0
/-! Cp0: values by content over the hand layer: data (PyData), cells (lists and dicts that change), what an expression and a statement mean as functions, and how such a meaning is a reading. -/
namespace Cp
open PySem L2

/-- the written part, and the world (texts hash by it) -/
structure Kw where
  K : PySem.W.Frag
  w : World
instance : Coe Kw PySem.W.Frag := ⟨Kw.K⟩
structure Er where
  cls : Str
  arg : Option (Str × PyData)
/-- a thunk: a lambda without parameters, its code object, its name, the data that its maker's names hold -/
structure Th where
  f : Addr
  c : Addr
  q : Str
  ds : List (Option PyData)
  σ : L2.St
/-- what is neither data nor a cell: a caught error, a def of the text, a dict from texts to such, a thunk -/
inductive Ob where
  | th (t : Th)
  | er (e : Er)
  | fn (x : Str)
  | fns (t : List (Str × Str))
/-- what a local name holds: data (never changed), a cell's number, the script, another thing -/
inductive Vl where
  | d (x : PyData)
  | c (i : Nat)
  | s (ns : List Int)
  | o (x : Ob)
/-- what a cell holds -/
inductive Cl where
  | l (xs : List PyData)
  | m (kvs : List (PyData × PyData))
/-- what an expression gives: data, a cell, or a new object that nobody else holds -/
inductive Rv where
  | d (x : PyData)
  | c (i : Nat)
  | s (ns : List Int)
  | n (o : Cl)
  | o (x : Ob)
abbrev Sto := List Cl
inductive Res (α : Type) where
  | ok (a : α) (s : Sto)
  | er (e : Er) (s : Sto)
  | no
abbrev En := List (Option Vl)
abbrev Ev := En → Sto → Res Rv
@[reducible] def Res.bind {α β : Type} (r : Res α) (f : α → Sto → Res β) : Res β :=
  match r with
  | .ok a s => f a s
  | .er e s => .er e s
  | .no => .no
theorem Res.bind_ok {α β : Type} (a : α) (s : Sto) (f : α → Sto → Res β) : Res.bind (.ok a s) f = f a s := rfl

/-! ### data in the abstract heap -/
def kD : Key → PyData
  | .inl i => .int i
  | .inr x => .str x
/-- a dict's object whose keys are tuples, by its entries -/
def dgE (w : World) (x : NestedKey × Addr × Value) : DictEntry := ⟨x.1.hash w, .ref x.2.1, x.2.2⟩
def DgPr (e : NestedKey × Addr × V) (x : NestedKey × Addr × Value) : Prop := e.1 = x.1 ∧ e.2.1 = x.2.1 ∧ RelV e.2.2 x.2.2
def dgO (w : World) (a : Addr) (es : List (NestedKey × Addr × V)) : HO := .ext fun h => es.length ≤ sizeLine ∧ (a == sysModules) = false ∧ ∃ xs o ar ep, Paired DgPr es xs ∧ h.get? a = some o ∧ o.ExactDict ∧ o.data = .dict ar ep ∧ ar.toList = xs.map (dgE w)
mutual
/-- a key: an int, a text, None, a tuple of such -/
def keyN : PyData → Option NestedKey
  | .none => some .none
  | .int i => some (.num i)
  | .str x => some (.text x)
  | .tuple xs => match keysN xs with
    | some ks => some (.tup ks)
    | none => none
  | _ => none
def keysN : List PyData → Option (List NestedKey)
  | [] => some []
  | d :: ds => match keyN d, keysN ds with
    | some k, some ks => some (k :: ks)
    | _, _ => none
end
mutual
inductive Dq (K : Kw) (F : Hp) : V → PyData → Prop
  | non : Dq K F .non .none
  | bl (b : Bool) : Dq K F (.bl b) (.bool b)
  | int (i : Int) : Dq K F (.int i) (.int i)
  | str (x : Str) : Dq K F (.str x) (.str x)
  | lst {a : Addr} {xs : List V} {ds : List PyData} : F a = some (.lst xs) → DqAll K F xs ds → Dq K F (.ref a) (.list ds)
  | tup {a : Addr} {xs : List V} {ds : List PyData} : F a = some (.tup xs) → DqAll K F xs ds → Dq K F (.ref a) (.tuple ds)
  | dic {a : Addr} {ws : List (Key × V)} {kvs : List (PyData × PyData)} : F a = some (.dK ws) → DqKv K F ws kvs → Dq K F (.ref a) (.dict kvs)
  | dig {a : Addr} {es : List (NestedKey × Addr × V)} {kvs : List (PyData × PyData)} : F a = some (dgO K.w a es) → DqG K F es kvs → (es.map (·.1)).Nodup → es ≠ [] → Dq K F (.ref a) (.dict kvs)
  | ins {a dx : Addr} {x : Str} {fs : List (Str × V)} {kvs : List (PyData × PyData)} : F a = some (.ins (He.ga K x) dx fs) → F dx = some (.own a) → DqF K F fs kvs → Dq K F (.ref a) (.dict ((.list [], .str x) :: kvs))
inductive DqAll (K : Kw) (F : Hp) : List V → List PyData → Prop
  | nil : DqAll K F [] []
  | cons {v : V} {vs : List V} {d : PyData} {ds : List PyData} : Dq K F v d → DqAll K F vs ds → DqAll K F (v :: vs) (d :: ds)
inductive DqKv (K : Kw) (F : Hp) : List (Key × V) → List (PyData × PyData) → Prop
  | nil : DqKv K F [] []
  | cons {k : Key} {v : V} {ws : List (Key × V)} {d : PyData} {kvs : List (PyData × PyData)} : Dq K F v d → DqKv K F ws kvs → DqKv K F ((k, v) :: ws) ((kD k, d) :: kvs)
/-- keys that are tuples -/
inductive DqG (K : Kw) (F : Hp) : List (NestedKey × Addr × V) → List (PyData × PyData) → Prop
  | nil : DqG K F [] []
  | cons {k : NestedKey} {b : Addr} {v : V} {es : List (NestedKey × Addr × V)} {kd d : PyData} {kvs : List (PyData × PyData)} : Dq K F (.ref b) kd → keyN kd = some k → k.depth ≤ 8 → Dq K F v d → DqG K F es kvs → DqG K F ((k, b, v) :: es) ((kd, d) :: kvs)
/-- the fields of an instance -/
inductive DqF (K : Kw) (F : Hp) : List (Str × V) → List (PyData × PyData) → Prop
  | nil : DqF K F [] []
  | cons {x : Str} {v : V} {fs : List (Str × V)} {d : PyData} {kvs : List (PyData × PyData)} : Dq K F v d → DqF K F fs kvs → DqF K F ((x, v) :: fs) ((.str x, d) :: kvs)
end
section
variable {K : Kw} {F F' : Hp}
theorem same_rd {a : Addr} {u : HO} (e : Same F F') (h : Rd F a u) : Rd F' a u := by
  rcases h with h | ⟨o, h⟩
  · exact .inl (e _ _ h)
  · exact .inr ⟨o, e _ _ h⟩
mutual
theorem Dq.same (e : Same F F') : ∀ {v : V} {d : PyData}, Dq K F v d → Dq K F' v d
  | _, _, .non => .non
  | _, _, .bl b => .bl b
  | _, _, .int i => .int i
  | _, _, .str x => .str x
  | _, _, .lst h r => .lst (e _ _ h) (DqAll.same e r)
  | _, _, .tup h r => .tup (e _ _ h) (DqAll.same e r)
  | _, _, .dic h r => .dic (e _ _ h) (DqKv.same e r)
  | _, _, .dig h r n z => .dig (e _ _ h) (DqG.same e r) n z
  | _, _, .ins h g r => .ins (e _ _ h) (e _ _ g) (DqF.same e r)
theorem DqAll.same (e : Same F F') : ∀ {vs : List V} {ds : List PyData}, DqAll K F vs ds → DqAll K F' vs ds
  | _, _, .nil => .nil
  | _, _, .cons h r => .cons (Dq.same e h) (DqAll.same e r)
theorem DqKv.same (e : Same F F') : ∀ {vs : List (Key × V)} {ds : List (PyData × PyData)}, DqKv K F vs ds → DqKv K F' vs ds
  | _, _, .nil => .nil
  | _, _, .cons h r => .cons (Dq.same e h) (DqKv.same e r)
theorem DqG.same (e : Same F F') : ∀ {vs : List (NestedKey × Addr × V)} {ds : List (PyData × PyData)}, DqG K F vs ds → DqG K F' vs ds
  | _, _, .nil => .nil
  | _, _, .cons h k l g r => .cons (Dq.same e h) k l (Dq.same e g) (DqG.same e r)
theorem DqF.same (e : Same F F') : ∀ {vs : List (Str × V)} {ds : List (PyData × PyData)}, DqF K F vs ds → DqF K F' vs ds
  | _, _, .nil => .nil
  | _, _, .cons h r => .cons (Dq.same e h) (DqF.same e r)
end
theorem DqAll.length : ∀ {vs : List V} {ds : List PyData}, DqAll K F vs ds → vs.length = ds.length
  | _, _, .nil => rfl
  | _, _, .cons _ r => by rw [List.length_cons, List.length_cons, r.length]
theorem DqAll.get : ∀ {vs : List V} {ds : List PyData} {i : Nat} {d : PyData}, DqAll K F vs ds → ds[i]? = some d → ∃ v, vs[i]? = some v ∧ Dq K F v d
  | _, _, _, _, .nil, e => by simp at e
  | _, _, 0, _, .cons h _, e => by simp at e; subst e; exact ⟨_, rfl, h⟩
  | _, _, i + 1, _, .cons _ r, e => by
    obtain ⟨v, h1, h2⟩ := DqAll.get (i := i) r (by simpa using e)
    exact ⟨v, by simpa using h1, h2⟩
theorem DqAll.getv : ∀ {vs : List V} {ds : List PyData} {i : Nat} {v : V}, DqAll K F vs ds → vs[i]? = some v → ∃ d, ds[i]? = some d ∧ Dq K F v d
  | _, _, _, _, .nil, e => by simp at e
  | _, _, 0, _, .cons h _, e => by simp at e; subst e; exact ⟨_, rfl, h⟩
  | _, _, i + 1, _, .cons _ r, e => by
    obtain ⟨v, h1, h2⟩ := DqAll.getv (i := i) r (by simpa using e)
    exact ⟨v, by simpa using h1, h2⟩
theorem DqAll.app : ∀ {vs ws : List V} {ds es : List PyData}, DqAll K F vs ds → DqAll K F ws es → DqAll K F (vs ++ ws) (ds ++ es)
  | _, _, _, _, .nil, h => h
  | _, _, _, _, .cons h r, h' => .cons h (DqAll.app r h')
theorem DqAll.set {x : V} {d : PyData} (hx : Dq K F x d) : ∀ {vs : List V} {ds : List PyData} (i : Nat), DqAll K F vs ds → DqAll K F (vs.set i x) (ds.set i d)
  | _, _, _, .nil => .nil
  | _, _, 0, .cons _ r => .cons hx r
  | _, _, i + 1, .cons h r => .cons h (DqAll.set hx i r)
theorem DqAll.take : ∀ {vs : List V} {ds : List PyData} (n : Nat), DqAll K F vs ds → DqAll K F (vs.take n) (ds.take n)
  | _, _, 0, _ => .nil
  | _, _, _ + 1, .nil => .nil
  | _, _, n + 1, .cons h r => .cons h (DqAll.take n r)
theorem DqAll.drop : ∀ {vs : List V} {ds : List PyData} (n : Nat), DqAll K F vs ds → DqAll K F (vs.drop n) (ds.drop n)
  | _, _, 0, h => h
  | _, _, _ + 1, .nil => .nil
  | _, _, n + 1, .cons _ r => DqAll.drop n r
theorem DqAll.rev : ∀ {vs : List V} {ds : List PyData}, DqAll K F vs ds → DqAll K F vs.reverse ds.reverse
  | _, _, .nil => .nil
  | _, _, .cons h r => by
    rw [List.reverse_cons, List.reverse_cons]
    exact DqAll.app (DqAll.rev r) (.cons h .nil)
end

/-! ### cells, values, environments -/
/-- a dict: its keys ints and texts, or tuples -/
def DcOk (K : Kw) (F : Hp) (a : Addr) (kvs : List (PyData × PyData)) (o : HO) : Prop :=
  (∃ ws, o = .dK ws ∧ DqKv K F ws kvs) ∨ ∃ es, o = dgO K.w a es ∧ DqG K F es kvs ∧ (es.map (·.1)).Nodup ∧ es ≠ []
theorem DcOk.same {K : Kw} {F F' : Hp} {a : Addr} {kvs : List (PyData × PyData)} {o : HO} (e : Same F F') (h : DcOk K F a kvs o) : DcOk K F' a kvs o := by
  rcases h with ⟨ws, h1, h2⟩ | ⟨es, h1, h2, h3, h4⟩
  · exact .inl ⟨ws, h1, h2.same e⟩
  · exact .inr ⟨es, h1, h2.same e, h3, h4⟩
theorem DcOk.dq {K : Kw} {F : Hp} {a : Addr} {kvs : List (PyData × PyData)} {o : HO} (h : DcOk K F a kvs o) (e : F a = some o) : Dq K F (.ref a) (.dict kvs) := by
  rcases h with ⟨ws, h1, h2⟩ | ⟨es, h1, h2, h3, h4⟩
  · subst h1; exact .dic e h2
  · subst h1; exact .dig e h2 h3 h4
def ClOk (K : Kw) (F : Hp) (a : Addr) : Cl → HO → Prop
  | .l ds, o => ∃ xs, o = .lst xs ∧ DqAll K F xs ds
  | .m kvs, o => DcOk K F a kvs o
/-- what stands in the place of a cell that has become data (no dict has such a key) -/
def gone : Cl := .m [(.list [], .none)]
/-- the table of code objects of the def x, each of the name q -/
def tabC (x q : Str) : Cl := .m [(.list [], .tuple [.str x, .str q])]
def isGone : Cl → Bool
  | .m [(.list [], .none)] => true
  | .m [(.list [], .tuple _)] => true
  | _ => false
def isDead : Cl → Bool
  | .m [(.list [], .none)] => true
  | _ => false
theorem notDead {c : Cl} (h : isGone c = false) : isDead c = false := by
  unfold isGone at h
  split at h
  · cases h
  · cases h
  · rename_i h1 h2
    unfold isDead
    split
    · exact absurd rfl h1
    · rfl
theorem tab_gone (x q : Str) : isGone (tabC x q) = true := rfl
def TabW (K : Kw) (F : Hp) (a : Addr) (c : Cl) (o : HO) : Prop := ∀ x q, c = tabC x q → (He.cT K.K (x, none)).2 = a ∧ ∃ ps : Array Value, o = .tbl ps ∧ TriplesOk ps.toList ∧ ∀ (pos : Pos) (cv : Value), codeAmong pos ps.toList = some cv → ∃ c', cv = .ref c' ∧ F c' = some (LamX.CodeO c' q)
theorem TabW.same {K : Kw} {F F' : Hp} {a : Addr} {c : Cl} {o : HO} (e : Same F F') (h : TabW K F a c o) : TabW K F' a c o := fun x q z => by
  obtain ⟨h1, ps, h2, h3, h4⟩ := h x q z
  refine ⟨h1, ps, h2, h3, fun pos cv hc => ?_⟩
  obtain ⟨c', k1, k2⟩ := h4 pos cv hc
  exact ⟨c', k1, e _ _ k2⟩
def ClW (K : Kw) (F : Hp) (a : Addr) (c : Cl) (o : HO) : Prop := (isGone c = true ∧ TabW K F a c o) ∨ ClOk K F a c o
theorem gone_w {K : Kw} {F : Hp} {a : Addr} {o : HO} : ClW K F a gone o := .inl ⟨rfl, fun x q e => by
  unfold gone tabC at e
  injection e with e; injection e with e _; injection e with _ e; cases e⟩
/-- the dict of an error, by its one field -/
def ErD (K : Kw) (F : Hp) : Option (Str × PyData) → Option Addr → Prop
  | none, dd => dd = none
  | some (f, x), dd => ∃ a v, dd = some a ∧ F a = some (.xd [(f, v)]) ∧ Dq K F v x
def erO (a : Addr) (cls : Value) (dd : Option Addr) : HO := .ext fun h => ∃ oe vs, h.get? a = some oe ∧ Zc cls dd oe ∧ oe.data = .fields vs
def ObOk (K : Kw) (F : Hp) : Ob → V → Prop
  | .th t, v => v = .ref t.f ∧ F t.c = some (LamX.CodeO t.c t.q) ∧ t.ds.length = t.σ.length ∧ ∀ (i : Nat) (d : PyData), t.ds[i]? = some (some d) → ∃ u, t.σ[i]? = some (some u) ∧ Dq K F u d
  | .er e, v => ∃ a dd, v = .ref a ∧ F a = some (erO a (.ref (He.ga K e.cls)) dd) ∧ ErD K F e.arg dd
  | .fn x, v => v = .ref (He.ga K x)
  | .fns t, v => ∃ a, v = .ref a ∧ F a = some (.dK (t.map fun p => (.inr p.1, .ref (He.ga K p.2))))
theorem ErD.same {K : Kw} {F F' : Hp} (e : Same F F') : ∀ {x : Option (Str × PyData)} {dd : Option Addr}, ErD K F x dd → ErD K F' x dd
  | none, _, h => h
  | some (f, x), _, ⟨a, v, h1, h2, h3⟩ => ⟨a, v, h1, e _ _ h2, Dq.same e h3⟩
theorem ObOk.same {K : Kw} {F F' : Hp} (e : Same F F') : ∀ {x : Ob} {v : V}, ObOk K F x v → ObOk K F' x v
  | .th _, _, ⟨h1, h2, h3, h4⟩ => ⟨h1, e _ _ h2, h3, fun i d q => let ⟨u, k1, k2⟩ := h4 i d q; ⟨u, k1, k2.same e⟩⟩
  | .er _, _, ⟨a, dd, h1, h2, h3⟩ => ⟨a, dd, h1, e _ _ h2, h3.same e⟩
  | .fn _, _, h => h
  | .fns _, _, ⟨a, h1, h2⟩ => ⟨a, h1, e _ _ h2⟩
def Vok (K : Kw) (F : Hp) (μ : List Addr) : Vl → V → Prop
  | .d x, v => Dq K F v x
  | .c i, v => ∃ a, μ[i]? = some a ∧ v = .ref a
  | .s ns, v => ∃ a, v = .ref a ∧ SqL K F a (ns.map V.int)
  | .o x, v => ObOk K F x v
def Rok (K : Kw) (F : Hp) (μ : List Addr) (H : Hp) : Rv → V → Prop
  | .d x, v => Dq K F v x
  | .c i, v => ∃ a, μ[i]? = some a ∧ v = .ref a
  | .s ns, v => ∃ a, v = .ref a ∧ SqL K F a (ns.map V.int)
  | .o x, v => ObOk K F x v
  | .n c, v => ∃ a o, v = .ref a ∧ H a = some o ∧ ClOk K F a c o ∧ F a = none ∧ a ∉ μ
def Eok (K : Kw) (F : Hp) (μ : List Addr) (ρ : En) (σ : St) : Prop :=
  ρ.length = σ.length ∧ ∀ (i : Nat) (x : Vl), ρ[i]? = some (some x) → ∃ v, σ[i]? = some (some v) ∧ Vok K F μ x v
structure SR (K : Kw) (μ : List Addr) (F H : Hp) (st : Sto) : Prop where
  nd : μ.Nodup
  len : μ.length = st.length
  sep : ∀ (i : Nat) (a : Addr) (c : Cl), μ[i]? = some a → st[i]? = some c → isDead c = false → F a = none
  sub : Same F H
  cell0 : ∀ (i : Nat) (c : Cl), st[i]? = some c → ∃ a o, μ[i]? = some a ∧ H a = some o ∧ ClW K F a c o
/-- from one state to a later one -/
structure Ext (μ : List Addr) (F H : Hp) (μ' : List Addr) (F' H' : Hp) : Prop where
  same : Same F F'
  pre : ∃ r, μ' = μ ++ r
  fr : ∀ b o, H b = some o → b ∉ μ → H' b = some o
  dom : ∀ b, H' b = none → H b = none
  nF : ∀ a o, F' a = some o → F a = some o ∨ H a = none ∨ a ∈ μ
  nC : ∀ a, a ∈ μ' → a ∈ μ ∨ H a = none
section
variable {K : Kw} {μ μ1 μ2 : List Addr} {F H F1 H1 F2 H2 : Hp} {st : Sto}
theorem Ext.refl : Ext μ F H μ F H := ⟨Same.refl F, ⟨[], by simp⟩, fun _ _ h _ => h, fun _ h => h, fun _ _ h => .inl h, fun _ h => .inl h⟩
theorem Ext.trans (a : Ext μ F H μ1 F1 H1) (b : Ext μ1 F1 H1 μ2 F2 H2) : Ext μ F H μ2 F2 H2 := by
  refine ⟨a.same.trans b.same, ?_, fun c o h n => ?_, fun c h => a.dom c (b.dom c h), fun c o h => ?_, fun c h => ?_⟩
  · obtain ⟨r, e⟩ := a.pre
    obtain ⟨r', e'⟩ := b.pre
    exact ⟨r ++ r', by rw [e', e, List.append_assoc]⟩
  · refine b.fr c o (a.fr c o h n) fun z => ?_
    rcases a.nC c z with z | z
    · exact n z
    · rw [z] at h; cases h
  · rcases b.nF c o h with z | z | z
    · exact a.nF c o z
    · exact .inr (.inl (a.dom c z))
    · rcases a.nC c z with z | z
      · exact .inr (.inr z)
      · exact .inr (.inl z)
  · rcases b.nC c h with z | z
    · exact a.nC c z
    · exact .inr (a.dom c z)
theorem Ext.get (a : Ext μ F H μ1 F1 H1) {i : Nat} {x : Addr} (h : μ[i]? = some x) : μ1[i]? = some x := by
  obtain ⟨r, e⟩ := a.pre
  rw [e, List.getElem?_append_left (List.getElem?_eq_some_iff.mp h).1]
  exact h
theorem Vok.ext (a : Ext μ F H μ1 F1 H1) {x : Vl} {v : V} (h : Vok K F μ x v) : Vok K F1 μ1 x v := by
  cases x with
  | d x => exact Dq.same a.same h
  | c i => obtain ⟨p, h1, h2⟩ := h; exact ⟨p, a.get h1, h2⟩
  | s ns => obtain ⟨p, h1, h2⟩ := h; exact ⟨p, h1, a.same.seq h2⟩
  | o x => exact ObOk.same a.same h
theorem Eok.ext (a : Ext μ F H μ1 F1 H1) {ρ : En} {σ : St} (h : Eok K F μ ρ σ) : Eok K F1 μ1 ρ σ :=
  ⟨h.1, fun i x e => let ⟨v, h1, h2⟩ := h.2 i x e; ⟨v, h1, h2.ext a⟩⟩
theorem DqAll.ext (a : Ext μ F H μ1 F1 H1) {xs : List V} {ds : List PyData} (h : DqAll K F xs ds) : DqAll K F1 xs ds := h.same a.same
theorem ClOk.same (e : Same F F1) {a : Addr} {c : Cl} {o : HO} (h : ClOk K F a c o) : ClOk K F1 a c o := by
  cases c with
  | l ds => obtain ⟨xs, h1, h2⟩ := h; exact ⟨xs, h1, h2.same e⟩
  | m kvs => exact DcOk.same e h
theorem ClW.same (e : Same F F1) {a : Addr} {c : Cl} {o : HO} (h : ClW K F a c o) : ClW K F1 a c o := h.imp (fun h => ⟨h.1, h.2.same e⟩) fun h => h.same e
theorem SR.cell (s : SR K μ F H st) (i : Nat) (c : Cl) (h : st[i]? = some c) (hz : isGone c = false := by rfl) : ∃ a o, μ[i]? = some a ∧ H a = some o ∧ ClOk K F a c o := by
  obtain ⟨a, o, h1, h2, h3⟩ := s.cell0 i c h
  rcases h3 with h3 | h3
  · rw [hz] at h3; cases h3.1
  · exact ⟨a, o, h1, h2, h3⟩
theorem Rok.ext (a : Ext μ F H μ1 F1 H1) {x : Rv} {v : V} (h : Rok K F μ H x v) : Rok K F1 μ1 H1 x v := by
  cases x with
  | d x => exact Dq.same a.same h
  | c i => obtain ⟨p, h1, h2⟩ := h; exact ⟨p, a.get h1, h2⟩
  | s ns => obtain ⟨p, h1, h2⟩ := h; exact ⟨p, h1, a.same.seq h2⟩
  | o x => exact ObOk.same a.same h
  | n c =>
    obtain ⟨p, o, h1, h2, h3, h4, h5⟩ := h
    refine ⟨p, o, h1, a.fr p o h2 h5, h3.same a.same, ?_, fun z => ?_⟩
    · cases q : F1 p with
      | none => rfl
      | some u =>
        rcases a.nF p u q with z | z | z
        · rw [h4] at z; cases z
        · rw [h2] at z; cases z
        · exact absurd z h5
    · rcases a.nC p z with z | z
      · exact h5 z
      · rw [h2] at z; cases z
theorem SR.dead (s : SR K μ F H st) {a : Addr} (h : H a = none) : F a = none ∧ a ∉ μ := by
  refine ⟨?_, fun z => ?_⟩
  · cases q : F a with
    | none => rfl
    | some o => rw [s.sub a o q] at h; cases h
  · obtain ⟨i, hi, e⟩ := List.getElem_of_mem z
    have hl : i < st.length := by rw [← s.len]; exact hi
    obtain ⟨b, o, h1, h2, _⟩ := s.cell0 i st[i] (by simp [hl])
    rw [List.getElem?_eq_getElem hi, e] at h1
    cases h1
    rw [h] at h2; cases h2
/-- a new object, tracked, held by nobody -/
theorem SR.newly (s : SR K μ F H st) {p : Addr} {o : HO} (hp : H p = none) : SR K μ F (upd H p o) st ∧ Ext μ F H μ F (upd H p o) := by
  have hd := s.dead hp
  have ne : ∀ b u, H b = some u → b ≠ p := fun b u h e => by subst e; rw [hp] at h; cases h
  refine ⟨⟨s.nd, s.len, s.sep, fun b u h => ?_, fun i c h => ?_⟩, ⟨Same.refl F, ⟨[], by simp⟩, fun b u h _ => ?_, fun b h => ?_, fun _ _ h => .inl h, fun _ h => .inl h⟩⟩
  · rw [upd_ne (ne b u (s.sub b u h))]; exact s.sub b u h
  · obtain ⟨a, u, h1, h2, h3⟩ := s.cell0 i c h
    exact ⟨a, u, h1, by rw [upd_ne (ne a u h2)]; exact h2, h3⟩
  · rw [upd_ne (ne b u h)]; exact h
  · by_cases e : b = p
    · subst e; exact hp
    · rw [upd_ne e] at h; exact h
/-- a new object, held by nobody, becomes data -/
theorem SR.freeze {H0 : Hp} (s : SR K μ1 F1 H1 st) (x : Ext μ F H0 μ1 F1 H1) (s0 : Same F H0) {p : Addr} {o : HO} (h0 : H0 p = none) (hp : H1 p = some o) (hF : F1 p = none) (hm : p ∉ μ1) :
    SR K μ1 (upd F1 p o) H1 st ∧ Ext μ F H0 μ1 (upd F1 p o) H1 ∧ Same F1 (upd F1 p o) := by
  have sm : Same F1 (upd F1 p o) := fun b u h => by
    rw [upd_ne (fun e => by subst e; rw [hF] at h; cases h)]; exact h
  refine ⟨⟨s.nd, s.len, fun i a c h h2 h3 => ?_, fun b u h => ?_, fun i c h => ?_⟩, ⟨x.same.trans sm, x.pre, x.fr, x.dom, fun a u h => ?_, x.nC⟩, sm⟩
  · rw [upd_ne (fun e => by subst e; exact hm (List.mem_of_getElem? h))]; exact s.sep i a c h h2 h3
  · by_cases e : b = p
    · subst e; rw [upd_same] at h; cases h; exact hp
    · rw [upd_ne e] at h; exact s.sub b u h
  · obtain ⟨a, u, h1, h2, h3⟩ := s.cell0 i c h
    exact ⟨a, u, h1, h2, h3.same sm⟩
  · by_cases e : a = p
    · subst e; exact .inr (.inl h0)
    · rw [upd_ne e] at h; exact x.nF a u h
/-- a new object, held by nobody, becomes a cell -/
theorem SR.celled {H0 : Hp} (s : SR K μ1 F1 H1 st) (x : Ext μ F H0 μ1 F1 H1) {p : Addr} {o : HO} {c : Cl} (h0 : H0 p = none) (hp : H1 p = some o) (hF : F1 p = none) (hm : p ∉ μ1) (hc : ClOk K F1 p c o) :
    SR K (μ1 ++ [p]) F1 H1 (st ++ [c]) ∧ Ext μ F H0 (μ1 ++ [p]) F1 H1 := by
  refine ⟨⟨?_, by simp [s.len], fun i a d h h2 h3 => ?_, s.sub, fun i d h => ?_⟩, ⟨x.same, ?_, x.fr, x.dom, x.nF, fun a h => ?_⟩⟩
  · rw [List.nodup_append]
    refine ⟨s.nd, by simp, fun a ha b hb e => ?_⟩
    rw [List.mem_singleton] at hb
    subst hb; subst e
    exact hm ha
  · by_cases hi : i < st.length
    · rw [List.getElem?_append_left (by rw [s.len]; exact hi)] at h
      rw [List.getElem?_append_left hi] at h2
      exact s.sep i a d h h2 h3
    · have e : i = st.length := by
        have := (List.getElem?_eq_some_iff.mp h2).1
        simp at this; omega
      subst e
      rw [← s.len] at h
      simp at h
      subst h
      exact hF
  · by_cases hi : i < st.length
    · rw [List.getElem?_append_left hi] at h
      obtain ⟨a, u, h1, h2, h3⟩ := s.cell0 i d h
      exact ⟨a, u, by rw [List.getElem?_append_left (by rw [s.len]; exact hi)]; exact h1, h2, h3⟩
    · have e : i = st.length := by
        have := (List.getElem?_eq_some_iff.mp h).1
        simp at this; omega
      subst e
      simp at h
      subst h
      exact ⟨p, o, by rw [← s.len]; simp, hp, .inr hc⟩
  · obtain ⟨r, e⟩ := x.pre
    exact ⟨r ++ [p], by rw [e, List.append_assoc]⟩
  · rcases List.mem_append.mp h with h | h
    · exact x.nC a h
    · rw [List.mem_singleton.mp h]; exact .inr h0
/-- a cell is written -/
theorem SR.write (s : SR K μ F H st) {i : Nat} {p : Addr} {o : HO} {c : Cl} (hi : μ[i]? = some p) (hc : ClOk K F p c o) {c0 : Cl} (h0 : st[i]? = some c0) (hz : isGone c0 = false := by rfl) : SR K μ F (upd H p o) (st.set i c) ∧ Ext μ F H μ F (upd H p o) := by
  have hm : p ∈ μ := List.mem_of_getElem? hi
  have hil : i < μ.length := (List.getElem?_eq_some_iff.mp hi).1
  have hF := s.sep i p c0 hi h0 (notDead hz)
  refine ⟨⟨s.nd, by simp [s.len], fun j a d h h2 h3 => ?_, fun b u h => ?_, fun j d h => ?_⟩, ⟨Same.refl F, ⟨[], by simp⟩, fun b u h n => ?_, fun b h => ?_, fun _ _ h => .inl h, fun _ h => .inl h⟩⟩
  · by_cases e : j = i
    · subst e
      rw [hi] at h; cases h
      exact hF
    · rw [List.getElem?_set_ne (Ne.symm e)] at h2
      exact s.sep j a d h h2 h3
  · rw [upd_ne (fun e => by subst e; rw [hF] at h; cases h)]; exact s.sub b u h
  · by_cases e : j = i
    · subst e
      rw [List.getElem?_set_self (by rw [← s.len]; exact hil)] at h
      cases h
      exact ⟨p, o, hi, upd_same, .inr hc⟩
    · rw [List.getElem?_set_ne (Ne.symm e)] at h
      obtain ⟨a, u, h1, h2, h3⟩ := s.cell0 j d h
      refine ⟨a, u, h1, ?_, h3⟩
      rw [upd_ne (fun z => ?_)]; exact h2
      subst z
      obtain ⟨l1, e1⟩ := List.getElem?_eq_some_iff.mp h1
      obtain ⟨l2, e2⟩ := List.getElem?_eq_some_iff.mp hi
      exact e ((List.getElem_inj s.nd).mp (e1.trans e2.symm))
  · rw [upd_ne (fun z => by subst z; exact n hm)]; exact h
  · by_cases e : b = p
    · subst e; rw [upd_same] at h; cases h
    · rw [upd_ne e] at h; exact h
/-- a cell becomes data -/
theorem SR.toData (s : SR K μ F H st) {i : Nat} {p : Addr} {xs : List PyData} (hi : μ[i]? = some p) (h0 : st[i]? = some (.l xs)) : ∃ F2, SR K μ F2 H (st.set i gone) ∧ Ext μ F H μ F2 H ∧ Dq K F2 (.ref p) (.list xs) := by
  have hm : p ∈ μ := List.mem_of_getElem? hi
  have hil : i < μ.length := (List.getElem?_eq_some_iff.mp hi).1
  have hF := s.sep i p _ hi h0 rfl
  obtain ⟨p', o, g1, g2, ys, rfl, g3⟩ := s.cell i _ h0
  rw [hi] at g1; cases g1
  have sm : Same F (upd F p (.lst ys)) := fun b u h => by
    rw [upd_ne (fun e => by subst e; rw [hF] at h; cases h)]; exact h
  refine ⟨upd F p (.lst ys), ⟨s.nd, by simp [s.len], fun j a d h h2 h3 => ?_, fun b u h => ?_, fun j d h => ?_⟩, ⟨sm, ⟨[], by simp⟩, fun _ _ h _ => h, fun _ h => h, fun a u h => ?_, fun _ h => .inl h⟩, .lst upd_same (g3.same sm)⟩
  · by_cases e : j = i
    · subst e
      rw [List.getElem?_set_self (by rw [← s.len]; exact hil)] at h2
      cases h2
      cases h3
    · rw [List.getElem?_set_ne (Ne.symm e)] at h2
      rw [upd_ne (fun z => ?_)]
      · exact s.sep j a d h h2 h3
      · subst z
        obtain ⟨l1, e1⟩ := List.getElem?_eq_some_iff.mp h
        obtain ⟨l2, e2⟩ := List.getElem?_eq_some_iff.mp hi
        exact e ((List.getElem_inj s.nd).mp (e1.trans e2.symm))
  · by_cases e : b = p
    · subst e; rw [upd_same] at h; cases h; exact g2
    · rw [upd_ne e] at h; exact s.sub b u h
  · by_cases e : j = i
    · subst e
      rw [List.getElem?_set_self (by rw [← s.len]; exact hil)] at h
      cases h
      exact ⟨_, _, hi, g2, gone_w⟩
    · rw [List.getElem?_set_ne (Ne.symm e)] at h
      obtain ⟨a, u, h1, h2, h3⟩ := s.cell0 j d h
      exact ⟨a, u, h1, h2, h3.same sm⟩
  · by_cases e : a = p
    · subst e; exact .inr (.inr hm)
    · rw [upd_ne e] at h; exact .inl h
/-- the newest cells are forgotten -/
theorem SR.cut (s : SR K μ1 F1 H1 st) (x : Ext μ F H μ1 F1 H1) (n : Nat) (hn : μ.length = n) : SR K μ F1 H1 (st.take n) ∧ Ext μ F H μ F1 H1 ∧ μ = μ1.take n := by
  obtain ⟨r, e⟩ := x.pre
  have e2 : μ = μ1.take n := by rw [e, ← hn]; simp
  have nd : μ.Nodup := by
    have := s.nd
    rw [e, List.nodup_append] at this
    exact this.1
  have hs : ∀ a, a ∈ μ → a ∈ μ1 := fun a h => by rw [e]; exact List.mem_append_left _ h
  have hl := s.len
  have hl1 : μ1.length = μ.length + r.length := by rw [e, List.length_append]
  refine ⟨⟨nd, ?_, fun i a c h h2 h3 => ?_, s.sub, fun i c h => ?_⟩, ⟨x.same, ⟨[], by simp⟩, x.fr, x.dom, x.nF, fun a h => .inl h⟩, e2⟩
  · rw [List.length_take]; omega
  · have hi : i < n := by
      have := (List.getElem?_eq_some_iff.mp h2).1
      rw [List.length_take] at this
      omega
    rw [List.getElem?_take_of_lt hi] at h2
    rw [e2, List.getElem?_take_of_lt hi] at h
    exact s.sep i a c h h2 h3
  · have hi : i < n := by
      have := (List.getElem?_eq_some_iff.mp h).1
      rw [List.length_take] at this
      omega
    rw [List.getElem?_take_of_lt hi] at h
    obtain ⟨a, u, h1, h2, h3⟩ := s.cell0 i c h
    exact ⟨a, u, by rw [e2, List.getElem?_take_of_lt hi]; exact h1, h2, h3⟩
end

/-! ### what a meaning wants -/
structure Out (K : Kw) (μ : List Addr) (F H : Hp) (st : Sto) (r : Rv) (v : V) (μ' : List Addr) (F' H' : Hp) : Prop where
  ext : Ext μ F H μ' F' H'
  sr : SR K μ' F' H' st
  rok : Rok K F' μ' H' r v
  new : ∀ c, r = .n c → ∃ a, v = .ref a ∧ H a = none
/-- an error of the program's own as the hand layer tells it -/
def ErOk (K : Kw) (mg : Str → Option Value) (F H : Hp) (e : Er) (cls : Value) (dd : Option Addr) : Prop :=
  cls = .ref (He.ga K e.cls) ∧ ErD K F e.arg dd
/-- how a thing that came may end; what is wished of an error may hang on the slots at its raising -/
structure Cn where
  K : Kw
  mg : Str → Option Value
  W : WX
  σ : St
abbrev Cn.E (C : Cn) : XK := fun cls d H => C.W cls d C.σ H
abbrev Cn.at (C : Cn) (σ : St) : Cn := { C with σ := σ }
abbrev Cn.ofE (K : Kw) (mg : Str → Option Value) (E : XK) : Cn := ⟨K, mg, fun cls d _ H => E cls d H, []⟩
/-- the slots do not matter -/
def Cn.Flat (C : Cn) : Prop := ∀ cls d σ σ' H, C.W cls d σ H → C.W cls d σ' H
def Erw (C : Cn) (μ : List Addr) (F H : Hp) (e : Er) (st : Sto) : Prop := ∀ cls dd μ' F' H', Ext μ F H μ' F' H' → SR C.K μ' F' H' st → ErOk C.K C.mg F' H' e cls dd → C.E cls dd H'
def Post {β : Type} (C : Cn) (G : β → Sto → List Addr → Hp → Hp → Prop) (μ : List Addr) (F H : Hp) : Res β → Prop
  | .ok r st => G r st μ F H
  | .er e st => Erw C μ F H e st
  | .no => False
abbrev gE (C : Cn) (Q : VK) : Rv → Sto → List Addr → Hp → Hp → Prop := fun r st μ F H => ∀ v μ' F' H', Out C.K μ F H st r v μ' F' H' → Q v H'
abbrev gV (C : Cn) (Q : VK) : Vl → Sto → List Addr → Hp → Hp → Prop := fun r st μ F H => ∀ v μ' F' H', Ext μ F H μ' F' H' → SR C.K μ' F' H' st → Vok C.K F' μ' r v → Q v H'
abbrev gB (C : Cn) (Q : Bool → Hp → Prop) : Bool → Sto → List Addr → Hp → Hp → Prop := fun b st μ F H => ∀ μ' F' H', Ext μ F H μ' F' H' → SR C.K μ' F' H' st → Q b H'
abbrev PostE (C : Cn) (Q : VK) := Post C (gE C Q)
abbrev PostV (C : Cn) (Q : VK) := Post C (gV C Q)
abbrev PostB (C : Cn) (Q : Bool → Hp → Prop) := Post C (gB C Q)
inductive VokAll (K : Kw) (F : Hp) (μ : List Addr) : List Vl → List V → Prop
  | nil : VokAll K F μ [] []
  | cons {x : Vl} {v : V} {xs : List Vl} {vs : List V} : Vok K F μ x v → VokAll K F μ xs vs → VokAll K F μ (x :: xs) (v :: vs)
abbrev gA (C : Cn) (Q : List V → Hp → Prop) : List Vl → Sto → List Addr → Hp → Hp → Prop := fun xs st μ F H => ∀ vs μ' F' H', Ext μ F H μ' F' H' → SR C.K μ' F' H' st → VokAll C.K F' μ' xs vs → Q vs H'
abbrev PostA (C : Cn) (Q : List V → Hp → Prop) := Post C (gA C Q)
def At (C : Cn) (σ : St) (H : Hp) (P : En → Sto → List Addr → Hp → Prop) : Prop := ∃ ρ st μ F, Eok C.K F μ ρ σ ∧ SR C.K μ F H st ∧ P ρ st μ F
def tM (C : Cn) (m : Ev) : TE := fun σ H Q => At C σ H fun ρ st μ F => PostE (C.at σ) Q μ F H (m ρ st)
def tV (C : Cn) (m : En → Sto → Res Vl) : TE := fun σ H Q => At C σ H fun ρ st μ F => PostV (C.at σ) Q μ F H (m ρ st)
def tT (C : Cn) (m : En → Sto → Res Bool) : TT := fun σ H Q => At C σ H fun ρ st μ F => PostB (C.at σ) Q μ F H (m ρ st)
def tAs (C : Cn) (m : En → Sto → Res (List Vl)) : TA := fun σ H Q => At C σ H fun ρ st μ F => PostA (C.at σ) Q μ F H (m ρ st)
section
variable {C : Cn} {μ μ1 : List Addr} {F H F1 H1 : Hp} {st : Sto}
theorem Erw.later {e : Er} (x : Ext μ F H μ1 F1 H1) (h : Erw C μ F H e st) : Erw C μ1 F1 H1 e st := fun cls dd μ' F' H' y s o => h cls dd μ' F' H' (x.trans y) s o
/-- what holds from a state holds from a later one -/
structure Lat {β : Type} (G : β → Sto → List Addr → Hp → Hp → Prop) : Prop where
  it : ∀ {r st μ F H μ1 F1 H1}, Ext μ F H μ1 F1 H1 → G r st μ F H → G r st μ1 F1 H1
theorem gE_lat {Q : VK} : Lat (gE C Q) := ⟨fun x h v μ' F' H' o => h v μ' F' H' ⟨x.trans o.ext, o.sr, o.rok, fun c e => let ⟨a, h1, h2⟩ := o.new c e; ⟨a, h1, x.dom a h2⟩⟩⟩
theorem gV_lat {Q : VK} : Lat (gV C Q) := ⟨fun x h v μ' F' H' y s o => h v μ' F' H' (x.trans y) s o⟩
theorem gB_lat {Q : Bool → Hp → Prop} : Lat (gB C Q) := ⟨fun x h μ' F' H' y s => h μ' F' H' (x.trans y) s⟩
theorem gA_lat {Q : List V → Hp → Prop} : Lat (gA C Q) := ⟨fun x h v μ' F' H' y s o => h v μ' F' H' (x.trans y) s o⟩
theorem Post.later {β : Type} {G : β → Sto → List Addr → Hp → Hp → Prop} (g : Lat G) {r : Res β} (x : Ext μ F H μ1 F1 H1) (h : Post C G μ F H r) : Post C G μ1 F1 H1 r := by
  cases r with
  | ok r st => exact g.it x h
  | er e st => exact Erw.later x h
  | no => exact h
/-- one step, then the rest: what came first is data or a cell -/
theorem Post.bindV {β : Type} {G : β → Sto → List Addr → Hp → Hp → Prop} (g : Lat G) {m : Res Vl} {k : Vl → Sto → Res β} {Q : VK} (h : Post C G μ F H (m.bind k))
    (hk : ∀ x s v μ1 F1 H1, Ext μ F H μ1 F1 H1 → SR C.K μ1 F1 H1 s → Vok C.K F1 μ1 x v → Post C G μ1 F1 H1 (k x s) → Q v H1) : PostV C Q μ F H m := by
  cases m with
  | ok x s => exact fun v μ1 F1 H1 e s1 o => hk x s v μ1 F1 H1 e s1 o (Post.later g e h)
  | er e s => exact h
  | no => exact h
theorem Post.bindE {β : Type} {G : β → Sto → List Addr → Hp → Hp → Prop} (g : Lat G) {m : Res Rv} {k : Rv → Sto → Res β} {Q : VK} (h : Post C G μ F H (m.bind k))
    (hk : ∀ x s v μ1 F1 H1, Out C.K μ F H s x v μ1 F1 H1 → Post C G μ1 F1 H1 (k x s) → Q v H1) : PostE C Q μ F H m := by
  cases m with
  | ok x s => exact fun v μ1 F1 H1 o => hk x s v μ1 F1 H1 o (Post.later g o.ext h)
  | er e s => exact h
  | no => exact h
theorem Post.bindB {β : Type} {G : β → Sto → List Addr → Hp → Hp → Prop} (g : Lat G) {m : Res Bool} {k : Bool → Sto → Res β} {Q : Bool → Hp → Prop} (h : Post C G μ F H (m.bind k))
    (hk : ∀ x s μ1 F1 H1, Ext μ F H μ1 F1 H1 → SR C.K μ1 F1 H1 s → Post C G μ1 F1 H1 (k x s) → Q x H1) : PostB C Q μ F H m := by
  cases m with
  | ok x s => exact fun μ1 F1 H1 e s1 => hk x s μ1 F1 H1 e s1 (Post.later g e h)
  | er e s => exact h
  | no => exact h
theorem Post.bindA {β : Type} {G : β → Sto → List Addr → Hp → Hp → Prop} (g : Lat G) {m : Res (List Vl)} {k : List Vl → Sto → Res β} {Q : List V → Hp → Prop} (h : Post C G μ F H (m.bind k))
    (hk : ∀ x s v μ1 F1 H1, Ext μ F H μ1 F1 H1 → SR C.K μ1 F1 H1 s → VokAll C.K F1 μ1 x v → Post C G μ1 F1 H1 (k x s) → Q v H1) : PostA C Q μ F H m := by
  cases m with
  | ok x s => exact fun v μ1 F1 H1 e s1 o => hk x s v μ1 F1 H1 e s1 o (Post.later g e h)
  | er e s => exact h
  | no => exact h
theorem VokAll.ext (a : Ext μ F H μ1 F1 H1) : ∀ {xs : List Vl} {vs : List V}, VokAll C.K F μ xs vs → VokAll C.K F1 μ1 xs vs
  | _, _, .nil => .nil
  | _, _, .cons h r => .cons (h.ext a) (VokAll.ext a r)
end

/-! ### data out of what came -/
/-- a new object handed on: data, unless it is to be a cell -/
def frz : Rv → Vl
  | .d x => .d x
  | .c i => .c i
  | .s ns => .s ns
  | .o x => .o x
  | .n (.l xs) => .d (.list xs)
  | .n (.m kvs) => .d (.dict kvs)
def mV (m : Ev) : En → Sto → Res Vl := fun ρ st => (m ρ st).bind fun r s => .ok (frz r) s
/-- .. a cell -/
def mVc (m : Ev) : En → Sto → Res Vl := fun ρ st => (m ρ st).bind fun r s => match r with
  | .n c => .ok (.c s.length) (s ++ [c])
  | r => .ok (frz r) s
section
variable {X : Cx} {C : Cn} {e : Expr} {m : Ev}
theorem _root_.L2.PE.imp {t t' : TE} (h : PE X e t) (w : ∀ σ H Q, t' σ H Q → t σ H Q) : PE X e t' := ⟨fun pins s σ H Q I h' => h.run pins s σ H Q I (w σ H Q h')⟩
theorem frz_out {K : Kw} {μ μ' : List Addr} {F H F' H' : Hp} {st st' : Sto} {r : Rv} {v : V} (s : SR K μ F H st) (o : Out K μ F H st' r v μ' F' H') : ∃ F2, Ext μ F H μ' F2 H' ∧ SR K μ' F2 H' st' ∧ Vok K F2 μ' (frz r) v := by
  obtain ⟨ext, sr, rok, new⟩ := o
  cases r with
  | d x => exact ⟨F', ext, sr, rok⟩
  | c i => exact ⟨F', ext, sr, rok⟩
  | s ns => exact ⟨F', ext, sr, rok⟩
  | o x => exact ⟨F', ext, sr, rok⟩
  | n c =>
    obtain ⟨a, o, rfl, h2, h3, h4, h5⟩ := rok
    obtain ⟨a', e1, h0⟩ := new c rfl
    cases e1
    obtain ⟨s2, x2, sm⟩ := sr.freeze ext s.sub h0 h2 h4 h5
    refine ⟨_, x2, s2, ?_⟩
    cases c with
    | l ds =>
      obtain ⟨xs, rfl, q⟩ := h3
      exact .lst upd_same (q.same sm)
    | m kvs =>
      exact (DcOk.same sm h3).dq upd_same
theorem pv_frz (h : PE X e (tM C m)) : PE X e (tV C (mV m)) := h.imp fun σ H Q ⟨ρ, st, μ, F, h1, h2, h3⟩ => ⟨ρ, st, μ, F, h1, h2, by
  show PostE (C.at σ) Q μ F H (m ρ st)
  cases e : m ρ st with
  | ok r st' =>
    simp only [mV, e] at h3
    intro v μ' F' H' o
    obtain ⟨F2, x2, s2, k⟩ := frz_out h2 o
    exact h3 v μ' F2 H' x2 s2 k
  | er e2 st' => simp only [mV, e] at h3; exact h3
  | no => simp only [mV, e] at h3; exact h3⟩
theorem pv_cell (h : PE X e (tM C m)) : PE X e (tV C (mVc m)) := h.imp fun σ H Q ⟨ρ, st, μ, F, h1, h2, h3⟩ => ⟨ρ, st, μ, F, h1, h2, by
  show PostE (C.at σ) Q μ F H (m ρ st)
  cases e : m ρ st with
  | ok r st' =>
    simp only [mVc, e] at h3
    intro v μ' F' H' o
    cases r with
    | d x => exact h3 v μ' F' H' o.ext o.sr o.rok
    | c x => exact h3 v μ' F' H' o.ext o.sr o.rok
    | s x => exact h3 v μ' F' H' o.ext o.sr o.rok
    | o x => exact h3 v μ' F' H' o.ext o.sr o.rok
    | n c =>
      obtain ⟨ext, sr, ⟨a, o, rfl, g2, g3, g4, g5⟩, new⟩ := o
      obtain ⟨a', e1, h0⟩ := new c rfl
      cases e1
      obtain ⟨s2, x2⟩ := sr.celled ext h0 g2 g4 g5 g3
      exact h3 _ _ _ _ x2 s2 ⟨a, by rw [← sr.len]; simp, rfl⟩
  | er e2 st' => simp only [mVc, e] at h3; exact h3
  | no => simp only [mVc, e] at h3; exact h3⟩
end

/-- .. a cell that nobody will write again becomes data -/
def mVz (m : Ev) : En → Sto → Res Vl := fun ρ st => (m ρ st).bind fun r s => match r with
  | .c k => match s[k]? with
    | some (.l xs) => .ok (.d (.list xs)) (s.set k gone)
    | _ => .no
  | r => .ok (frz r) s
section
variable {X : Cx} {C : Cn} {e : Expr} {m : Ev}
theorem pv_gone (h : PE X e (tM C m)) : PE X e (tV C (mVz m)) := h.imp fun σ H Q ⟨ρ, st, μ, F, h1, h2, h3⟩ => ⟨ρ, st, μ, F, h1, h2, by
  show PostE (C.at σ) Q μ F H (m ρ st)
  cases e : m ρ st with
  | ok r st' =>
    simp only [mVz, e] at h3
    intro v μ' F' H' o
    cases r with
    | d x => exact h3 v μ' F' H' o.ext o.sr o.rok
    | s x => exact h3 v μ' F' H' o.ext o.sr o.rok
    | o x => exact h3 v μ' F' H' o.ext o.sr o.rok
    | n c =>
      obtain ⟨F2, x2, s2, k⟩ := frz_out h2 o
      exact h3 v μ' F2 H' x2 s2 k
    | c k =>
      obtain ⟨p, hp, rfl⟩ := o.rok
      have h3 : PostV (C.at σ) Q μ F H (match st'[k]? with
        | some (.l xs) => .ok (.d (.list xs)) (st'.set k gone)
        | _ => .no) := h3
      cases q : st'[k]? with
      | none => simp only [q] at h3; exact False.elim h3
      | some c =>
        cases c with
        | m _ => simp only [q] at h3; exact False.elim h3
        | l xs =>
          simp only [q] at h3
          obtain ⟨F2, s2, x2, hd⟩ := o.sr.toData hp q
          exact h3 _ μ' F2 H' (o.ext.trans x2) s2 hd
  | er e2 st' => simp only [mVz, e] at h3; exact h3
  | no => simp only [mVz, e] at h3; exact h3⟩
end

/-! ### what stands at a value, as data: a cell by its content now -/
def view (st : Sto) : Vl → Option PyData
  | .d x => some x
  | .c i => match st[i]? with
    | some (.l xs) => some (.list xs)
    | some (.m kvs) => if isGone (.m kvs) then none else some (.dict kvs)
    | none => none
  | .s _ => none
  | .o _ => none
/-- the thing itself in the heap, its items among the data -/
def Vw (K : Kw) (F H : Hp) : V → PyData → Prop
  | v, .list ds => ∃ a xs, v = .ref a ∧ H a = some (.lst xs) ∧ DqAll K F xs ds
  | v, .dict kvs => (∃ a o, v = .ref a ∧ H a = some o ∧ DcOk K F a kvs o) ∨ ∃ x r, kvs = (.list [], .str x) :: r ∧ Dq K F v (.dict kvs)
  | v, d => Dq K F v d
section
variable {K : Kw} {μ : List Addr} {F H : Hp} {st : Sto}
theorem Vw.of {v : V} {d : PyData} (s : Same F H) (h : Dq K F v d) : Vw K F H v d := by
  cases h with
  | lst h r => exact ⟨_, _, rfl, s _ _ h, r⟩
  | dic h r => exact .inl ⟨_, _, rfl, s _ _ h, .inl ⟨_, rfl, r⟩⟩
  | dig h r n z => exact .inl ⟨_, _, rfl, s _ _ h, .inr ⟨_, rfl, r, n, z⟩⟩
  | ins h g r => exact .inr ⟨_, _, rfl, .ins h g r⟩
  | non => exact .non
  | bl b => exact .bl b
  | int i => exact .int i
  | str x => exact .str x
  | tup h r => exact .tup h r
theorem Vw.dq {v : V} {d : PyData} (s : Same F H) (h : Vw K F H v d) : Dq K H v d := by
  cases d with
  | list ds => obtain ⟨a, xs, rfl, h1, h2⟩ := h; exact .lst h1 (h2.same s)
  | dict ds =>
    rcases h with ⟨a, o, rfl, h1, h2⟩ | ⟨x, r, rfl, h⟩
    · exact (h2.same s).dq h1
    · exact h.same s
  | none => exact Dq.same s h
  | bool b => exact Dq.same s h
  | int i => exact Dq.same s h
  | str x => exact Dq.same s h
  | tuple ds => exact Dq.same s h
theorem view_ok (s : SR K μ F H st) {x : Vl} {v : V} {d : PyData} (h : Vok K F μ x v) (e : view st x = some d) : Vw K F H v d := by
  cases x with
  | d y => cases e; exact Vw.of s.sub h
  | s ns => cases e
  | o x => cases e
  | c i =>
    obtain ⟨a, h1, rfl⟩ := h
    unfold view at e
    cases q : st[i]? with
    | none => simp only [q] at e; cases e
    | some c =>
      cases c with
      | l xs =>
        obtain ⟨b, o, g1, g2, g3⟩ := s.cell i _ q
        rw [h1] at g1; cases g1
        simp only [q] at e; cases e
        obtain ⟨vs, rfl, r⟩ := g3
        exact ⟨_, _, rfl, g2, r⟩
      | m xs =>
        simp only [q] at e
        cases hz : isGone (.m xs) with
        | true => rw [hz] at e; cases e
        | false =>
          rw [hz] at e
          cases e
          obtain ⟨b, o, g1, g2, g3⟩ := s.cell i _ q hz
          rw [h1] at g1; cases g1
          exact .inl ⟨_, _, rfl, g2, g3⟩
/-- keys that are ints and texts -/
def flK (kvs : List (PyData × PyData)) : Bool := kvs.all fun p => match p.1 with
  | .int _ => true
  | .str _ => true
  | _ => false
theorem DcOk.flat {a : Addr} {kvs : List (PyData × PyData)} {o : HO} (h : DcOk K F a kvs o) (f : flK kvs = true) : ∃ ws, o = .dK ws ∧ DqKv K F ws kvs := by
  rcases h with h | ⟨es, h1, h2, h3, h4⟩
  · exact h
  · cases h2 with
    | nil => exact absurd rfl h4
    | cons g _ _ _ _ =>
      unfold flK at f
      rw [List.all_cons, Bool.and_eq_true] at f
      cases g <;> exact absurd f.1 Bool.false_ne_true
theorem Vw.flat_dict {v : V} {kvs : List (PyData × PyData)} (h : Vw K F H v (.dict kvs)) (f : flK kvs = true) : ∃ a ws, v = .ref a ∧ H a = some (.dK ws) ∧ DqKv K F ws kvs := by
  rcases h with ⟨a, o, rfl, h1, h2⟩ | ⟨x, r, rfl, h⟩
  · obtain ⟨ws, rfl, h3⟩ := h2.flat f
    exact ⟨a, ws, rfl, h1, h3⟩
  · cases f
end
end Cp
/-! Cp1: expressions. -/
namespace Cp
open PySem L2
section
variable {X : Cx} {C : Cn} {Q : VK} {μ : List Addr} {F H : Hp} {st : Sto} {e a b c : Expr} {m ma mb mc : Ev} {pos : Pos}

/-! ### how a rule's wish is met -/
theorem fin_d {x : PyData} {v : V} (s : SR C.K μ F H st) (h : PostE C Q μ F H (.ok (.d x) st)) (hv : Dq C.K F v x) : Q v H := h v μ F H ⟨Ext.refl, s, hv, fun _ e => nomatch e⟩
theorem fin_n {c : Cl} {p : Addr} {o : HO} (s : SR C.K μ F H st) (h : PostE C Q μ F H (.ok (.n c) st)) (hp : H p = none) (hc : ClOk C.K F p c o) : Q (.ref p) (upd H p o) :=
  let ⟨s1, x1⟩ := s.newly hp
  h _ μ F _ ⟨x1, s1, ⟨p, o, rfl, upd_same, hc, (s.dead hp).1, (s.dead hp).2⟩, fun _ _ => ⟨p, rfl, hp⟩⟩
theorem fin_t {ds : List PyData} {p : Addr} {xs : List V} (s : SR C.K μ F H st) (h : PostE C Q μ F H (.ok (.d (.tuple ds)) st)) (hp : H p = none) (hx : DqAll C.K F xs ds) : Q (.ref p) (upd H p (.tup xs)) := by
  obtain ⟨s1, x1⟩ := s.newly (o := .tup xs) hp
  obtain ⟨s2, x2, sm⟩ := s1.freeze x1 s.sub hp upd_same (s.dead hp).1 (s.dead hp).2
  exact h _ μ _ _ ⟨x2, s2, .tup upd_same (hx.same sm), fun _ e => nomatch e⟩
theorem fin_dv {x : PyData} {v : V} (s : SR C.K μ F H st) {Q : VK} (h : PostV C Q μ F H (.ok (.d x) st)) (hv : Dq C.K F v x) : Q v H := h v μ F H Ext.refl s hv

/-! ### names, constants -/
def Rv.of : Vl → Rv
  | .d x => .d x
  | .c i => .c i
  | .s ns => .s ns
  | .o x => .o x
def mN (i : Nat) : Ev := fun ρ st => match ρ[i]? with
  | some (some x) => .ok (Rv.of x) st
  | _ => .no
def mK (x : PyData) : Ev := fun _ st => .ok (.d x) st
theorem s_name {i : Nat} (h : PE X e (tVar i)) : PE X e (tM C (mN i)) := h.imp fun σ H Q ⟨ρ, st, μ, F, h1, h2, h3⟩ => by
  unfold mN at h3
  cases q : ρ[i]? with
  | none => simp only [q] at h3; exact False.elim h3
  | some o =>
    cases o with
    | none => simp only [q] at h3; exact False.elim h3
    | some x =>
      simp only [q] at h3
      obtain ⟨v, e1, k⟩ := h1.2 i x q
      refine ⟨v, e1, h3 v μ F H ⟨Ext.refl, h2, ?_, fun c z => by cases x <;> cases z⟩⟩
      cases x <;> exact k
theorem s_const {x : PyData} {v : V} (h : PE X e (tC v)) (hd : ∀ F, Dq C.K F v x) : PE X e (tM C (mK x)) := h.imp fun σ H Q ⟨ρ, st, μ, F, h1, h2, h3⟩ => fin_d h2 h3 (hd F)
theorem s_int {i : Int} {j} : PE X (.Constant (.int i) j pos) (tM C (mK (.int i))) := s_const pe_int fun _ => .int i
theorem s_bool {i : Bool} {j} : PE X (.Constant (.bool i) j pos) (tM C (mK (.bool i))) := s_const pe_bl fun _ => .bl i
theorem s_none {j} : PE X (.Constant .none j pos) (tM C (mK .none)) := s_const pe_non fun _ => .non
theorem s_str {x : Str} {j} : PE X (.Constant (.str x) j pos) (tM C (mK (.str x))) := s_const pe_str fun _ => .str x

/-! ### operators of two values -/
def view2 (f : PyData → PyData → Option Rv) (s : Sto) (x y : Vl) : Res Rv := match view s x, view s y with
  | some a, some b => match f a b with
    | some r => .ok r s
    | none => .no
  | _, _ => .no
def mBin (f : PyData → PyData → Option Rv) (ma mb : Ev) : Ev := fun ρ st => (mV ma ρ st).bind fun x s1 => (mV mb ρ s1).bind fun y s2 => view2 f s2 x y
def BinOk (C : Cn) (r : R2) (f : PyData → PyData → Option Rv) : Prop :=
  ∀ (a b : PyData) (res : Rv) (v u : V) (μ : List Addr) (F H : Hp) (st : Sto) (Q : VK), SR C.K μ F H st → Vw C.K F H v a → Vw C.K F H u b → f a b = some res → PostE C Q μ F H (.ok res st) → r v u H Q
theorem s_two {r : R2} {f : PyData → PyData → Option Rv} (h : PE X e (tOp r (tV C (mV ma)) (tV C (mV mb)))) (ok : BinOk C r f) : PE X e (tM C (mBin f ma mb)) :=
  h.imp fun σ H Q ⟨ρ, st, μ, F, h1, h2, h3⟩ => ⟨ρ, st, μ, F, h1, h2, Post.bindV gE_lat h3 fun x s v μ1 F1 H1 x1 r1 k1 h4 =>
    ⟨ρ, s, μ1, F1, h1.ext x1, r1, Post.bindV gE_lat h4 fun y s2 u μ2 F2 H2 x2 r2 k2 h5 => by
      unfold view2 at h5
      cases q1 : view s2 x with
      | none => simp only [q1] at h5; exact False.elim h5
      | some da =>
        cases q2 : view s2 y with
        | none => simp only [q1, q2] at h5; exact False.elim h5
        | some db =>
          cases q3 : f da db with
          | none => simp only [q1, q2, q3] at h5; exact False.elim h5
          | some res =>
            simp only [q1, q2, q3] at h5
            exact ok da db res v u μ2 F2 H2 s2 Q r2 (view_ok r2 (k1.ext x2) q1) (view_ok r2 k2 q2) q3 h5⟩⟩
theorem s_bin {op : Operator} {r : R2} {f : PyData → PyData → Option Rv} (ho : OpR X (binaryOp op) r) (ok : BinOk C r f) (ha : PE X a (tM C ma)) (hb : PE X b (tM C mb)) : PE X (.BinOp a op b pos) (tM C (mBin f ma mb)) :=
  s_two (pe_op ho (pv_frz ha) (pv_frz hb)) ok
theorem BinOk.or {r r' : R2} {f f' : PyData → PyData → Option Rv} (h : BinOk C r f) (h' : BinOk C r' f') : BinOk C (fun x y H Q => r x y H Q ∨ r' x y H Q) (fun a b => match f a b with | some z => some z | none => f' a b) := by
  intro a b res v u μ F H st Q s va vb e p
  cases q : f a b with
  | some z => simp only [q] at e; cases e; exact .inl (h a b _ v u μ F H st Q s va vb q p)
  | none => simp only [q] at e; exact .inr (h' a b res v u μ F H st Q s va vb e p)
/-- ints to an int -/
def fI (P : Int → Int → Bool) (g : Int → Int → Int) : PyData → PyData → Option Rv
  | .int i, .int j => if P i j then some (.d (.int (g i j))) else none
  | _, _ => none
theorem Vw.int {K : Kw} {v : V} {i : Int} (h : Vw K F H v (.int i)) : v = .int i := by cases (show Dq K F v (.int i) from h); rfl
theorem Vw.bl {K : Kw} {v : V} {i : Bool} (h : Vw K F H v (.bool i)) : v = .bl i := by cases (show Dq K F v (.bool i) from h); rfl
theorem Vw.str {K : Kw} {v : V} {i : Str} (h : Vw K F H v (.str i)) : v = .str i := by cases (show Dq K F v (.str i) from h); rfl
theorem Vw.non {K : Kw} {v : V} (h : Vw K F H v .none) : v = .non := by cases (show Dq K F v .none from h); rfl
theorem Vw.tup {K : Kw} {v : V} {ds : List PyData} (h : Vw K F H v (.tuple ds)) : ∃ a xs, v = .ref a ∧ F a = some (.tup xs) ∧ DqAll K F xs ds := by cases (show Dq K F v (.tuple ds) from h) with | tup h1 h2 => exact ⟨_, _, rfl, h1, h2⟩
theorem fI_ok {P : Int → Int → Prop} {p : Int → Int → Bool} {g : Int → Int → Int} (hp : ∀ i j, p i j = true → P i j) : BinOk C (rI P fun i j => .int (g i j)) (fI p g) := by
  intro a b res v u μ F H st Q s va vb e h
  unfold fI at e
  split at e
  · split at e
    · rename_i hh
      cases e
      exact ⟨_, _, va.int, vb.int, hp _ _ hh, fin_d s h (.int _)⟩
    · cases e
  · cases e
theorem fI0_ok {g : Int → Int → Int} : BinOk C (rI0 fun i j => .int (g i j)) (fI (fun _ _ => true) g) := by
  intro a b res v u μ F H st Q s va vb e h
  unfold fI at e
  split at e
  · simp only [if_true] at e
    cases e
    exact ⟨_, _, va.int, vb.int, fin_d s h (.int _)⟩
  · cases e
/-- texts, tuples, lists joined -/
def fCatS : PyData → PyData → Option Rv
  | .str i, .str j => if i.length + j.length ≤ sizeLine then some (.d (.str (i ++ j))) else none
  | _, _ => none
def fCatT : PyData → PyData → Option Rv
  | .tuple i, .tuple j => if i.length + j.length ≤ sizeLine then some (.d (.tuple (i ++ j))) else none
  | _, _ => none
def fCatL : PyData → PyData → Option Rv
  | .list i, .list j => if i.length + j.length ≤ sizeLine then some (.n (.l (i ++ j))) else none
  | _, _ => none
theorem fCatS_ok : BinOk C (fun x y H Q => ∃ i j, x = .str i ∧ y = .str j ∧ i.length + j.length ≤ sizeLine ∧ Q (.str (i ++ j)) H) fCatS := by
  intro a b res v u μ F H st Q s va vb e h
  unfold fCatS at e
  split at e
  · split at e
    · cases e
      exact ⟨_, _, va.str, vb.str, by assumption, fin_d s h (.str _)⟩
    · cases e
  · cases e
theorem fCatT_ok {K : PySem.W.Frag} : BinOk C (rCatA K) fCatT := by
  intro a b res v u μ F H st Q s va vb e h
  unfold fCatT at e
  split at e
  · split at e
    · rename_i hz
      cases e
      obtain ⟨p, xs, rfl, p1, p2⟩ := va.tup
      obtain ⟨q, ys, rfl, q1, q2⟩ := vb.tup
      refine ⟨p, q, xs, ys, rfl, rfl, SqT.of (s.sub _ _ p1), SqT.of (s.sub _ _ q1), by rw [p2.length, q2.length]; exact hz, fun z => ?_, fun _ z => ?_, fun _ _ r hr => fin_t s h hr (p2.app q2)⟩
      · subst z
        cases p2
        exact fin_d s h (.tup q1 q2)
      · subst z
        cases q2
        exact fin_d s (by simpa using h) (.tup p1 p2)
    · cases e
  · cases e
theorem fCatL_ok : BinOk C rCat fCatL := by
  intro a b res v u μ F H st Q s va vb e h
  unfold fCatL at e
  split at e
  · split at e
    · rename_i hz
      cases e
      obtain ⟨p, xs, rfl, p1, p2⟩ := va
      obtain ⟨q, ys, rfl, q1, q2⟩ := vb
      exact ⟨p, q, xs, ys, rfl, rfl, p1, q1, by rw [p2.length, q2.length]; exact hz, fun r hr => fin_n s h hr ⟨_, rfl, p2.app q2⟩⟩
    · cases e
  · cases e
end
end Cp
/-! Cp2: comparisons, tests, places, slices, displays. -/
namespace Cp
open PySem L2
section
variable {X : Cx} {C : Cn} {Q : VK} {μ : List Addr} {F H : Hp} {st : Sto} {e a b c : Expr} {m ma mb mc : Ev} {pos : Pos}

/-! ### comparisons -/
def CmpOk (C : Cn) (r : R2) (g : PyData → PyData → Option Bool) : Prop :=
  ∀ (a b : PyData) (k : Bool) (v u : V) (μ : List Addr) (F H : Hp) (st : Sto) (Q : VK), SR C.K μ F H st → Vw C.K F H v a → Vw C.K F H u b → g a b = some k → Q (.bl k) H → r v u H Q
def cmp2 (g : PyData → PyData → Option Bool) (s : Sto) (x y : Vl) : Option Bool := match view s x, view s y with
  | some a, some b => g a b
  | _, _ => none
def okB (o : Option Bool) (s : Sto) : Res Bool := match o with
  | some k => .ok k s
  | none => .no
/-- a test's answer as a value -/
def bV (m : En → Sto → Res Bool) : Ev := fun ρ st => (m ρ st).bind fun k s => .ok (.d (.bool k)) s
def mCmp (g : PyData → PyData → Option Bool) (ma mb : Ev) : En → Sto → Res Bool := fun ρ st => (mV ma ρ st).bind fun x s1 => (mV mb ρ s1).bind fun y s2 => okB (cmp2 g s2 x y) s2
theorem CmpOk.or {r r' : R2} {f f' : PyData → PyData → Option Bool} (h : CmpOk C r f) (h' : CmpOk C r' f') : CmpOk C (fun x y H Q => r x y H Q ∨ r' x y H Q) (fun a b => match f a b with | some z => some z | none => f' a b) := by
  intro a b res v u μ F H st Q s va vb e p
  cases q : f a b with
  | some z => simp only [q] at e; cases e; exact .inl (h a b _ v u μ F H st Q s va vb q p)
  | none => simp only [q] at e; exact .inr (h' a b res v u μ F H st Q s va vb e p)
theorem cmp_core {β : Type} {G : β → Sto → List Addr → Hp → Hp → Prop} (gl : Lat G) {r : R2} {g : PyData → PyData → Option Bool} (ok : CmpOk C r g) {σ : St} {ρ : En} {R : VK} (h1 : Eok C.K F μ ρ σ) {kk : Bool → Sto → Res β}
    (h3 : Post (C.at σ) G μ F H ((mCmp g ma mb ρ st).bind kk)) (fin : ∀ k s μ1 F1 H1, Ext μ F H μ1 F1 H1 → SR C.K μ1 F1 H1 s → Post (C.at σ) G μ1 F1 H1 (kk k s) → R (.bl k) H1) :
    PostV (C.at σ) (fun x H1 => tV C (mV mb) σ H1 fun y H2 => r x y H2 R) μ F H (mV ma ρ st) := by
  have h3' : Post (C.at σ) G μ F H ((mV ma ρ st).bind fun x s1 => ((mV mb ρ s1).bind fun y s2 => okB (cmp2 g s2 x y) s2).bind kk) := by
    revert h3
    unfold mCmp
    cases mV ma ρ st <;> exact id
  refine Post.bindV gl h3' fun x s v μ1 F1 H1 x1 r1 k1 h4 => ⟨ρ, s, μ1, F1, h1.ext x1, r1, ?_⟩
  have h4' : Post (C.at σ) G μ1 F1 H1 ((mV mb ρ s).bind fun y s2 => (okB (cmp2 g s2 x y) s2).bind kk) := by
    revert h4
    cases mV mb ρ s <;> exact id
  refine Post.bindV gl h4' fun y s2 u μ2 F2 H2 x2 r2 k2 h5 => ?_
  unfold cmp2 at h5
  cases q1 : view s2 x with
  | none => simp only [q1, okB] at h5; exact False.elim h5
  | some da =>
    cases q2 : view s2 y with
    | none => simp only [q1, q2, okB] at h5; exact False.elim h5
    | some db =>
      cases q3 : g da db with
      | none => simp only [q1, q2, q3, okB] at h5; exact False.elim h5
      | some k =>
        simp only [q1, q2, q3, okB] at h5
        exact ok da db k v u μ2 F2 H2 s2 R r2 (view_ok r2 (k1.ext x2) q1) (view_ok r2 k2 q2) q3 (fin k s2 μ2 F2 H2 (x1.trans x2) r2 h5)
theorem s_cmp {op : CmpOp} {r : R2} {g : PyData → PyData → Option Bool} (ho : OpR X (compareOp op) r) (ok : CmpOk C r g) (ha : PE X a (tM C ma)) (hb : PE X b (tM C mb)) (hm : behindInMarks op b = false) : PE X (.Compare a [op] [b] pos) (tM C (bV (mCmp g ma mb))) :=
  (pe_cmpR ho (pv_frz ha) (pv_frz hb) hm).imp fun σ H Q ⟨ρ, st, μ, F, h1, h2, h3⟩ => ⟨ρ, st, μ, F, h1, h2, cmp_core gE_lat ok h1 h3 fun k s μ1 F1 H1 x1 r1 h => fin_d r1 h (.bl k)⟩
theorem s_cmpT {op : CmpOp} {r : R2} {g : PyData → PyData → Option Bool} (ho : OpR X (compareOp op) r) (ok : CmpOk C r g) (ha : PE X a (tM C ma)) (hb : PE X b (tM C mb)) (hm : behindInMarks op b = false) : PT X (.Compare a [op] [b] pos) (tT C (mCmp g ma mb)) := by
  have h := pt_cmpR (pos := pos) ho (pv_frz ha) (pv_frz hb) hm
  refine ⟨fun pins s σ H Q I ⟨ρ, st, μ, F, h1, h2, h3⟩ => h.run pins s σ H Q I ⟨ρ, st, μ, F, h1, h2, ?_⟩⟩
  have h3' : PostB (C.at σ) Q μ F H ((mCmp g ma mb ρ st).bind fun k s => .ok k s) := by
    revert h3
    cases mCmp g ma mb ρ st <;> exact id
  exact cmp_core gB_lat ok h1 h3' fun k s μ1 F1 H1 x1 r1 h => ⟨k, rfl, h μ1 F1 H1 Ext.refl r1⟩

/-! ### their answers -/
mutual
theorem Dq.dp {K : Kw} {K' : PySem.W.Frag} {H : Hp} : ∀ {v : V} {d : PyData}, Dq K H v d → d.canLay0 = true → Dp K' H v d
  | _, _, .non, _ => .non
  | _, _, .bl b, _ => .bl b
  | _, _, .int i, _ => .int i
  | _, _, .str x, _ => .str x
  | _, _, .lst h r, c => .lst (SqL.of h) (DqAll.dp r c)
  | _, _, .tup h r, c => .tup (SqT.of h) (DqAll.dp r c)
  | _, _, .dic _ _, c => by simp [PyData.canLay0] at c
  | _, _, .dig _ _ _ _, c => by simp [PyData.canLay0] at c
  | _, _, .ins _ _ _, c => by simp [PyData.canLay0] at c
theorem DqAll.dp {K : Kw} {K' : PySem.W.Frag} {H : Hp} : ∀ {vs : List V} {ds : List PyData}, DqAll K H vs ds → PyData.canLayAll0 ds = true → DpAll K' H vs ds
  | _, _, .nil, _ => .nil
  | _, _, .cons h r, c => by
    rw [PyData.canLayAll0, Bool.and_eq_true] at c
    exact .cons (Dq.dp h c.1) (DqAll.dp r c.2)
end
def gEq (a b : PyData) : Option Bool := if SeqAt.shaped a && SeqAt.shaped b then some (PyData.eqv a b) else none
def gNe (a b : PyData) : Option Bool := if SeqAt.shaped a && SeqAt.shaped b then some (!PyData.eqv a b) else none
theorem gEq_ok {K : PySem.W.Frag} : CmpOk C (rEqD K) gEq := by
  intro a b k v u μ F H st Q s va vb e q
  unfold gEq at e
  split at e
  · rename_i hh
    rw [Bool.and_eq_true] at hh
    cases e
    exact ⟨a, b, (va.dq s.sub).dp (SeqAt.canLay_of_shaped hh.1), (vb.dq s.sub).dp (SeqAt.canLay_of_shaped hh.2), hh.1, hh.2, q⟩
  · cases e
theorem gNe_ok {K : PySem.W.Frag} : CmpOk C (rNeD K) gNe := by
  intro a b k v u μ F H st Q s va vb e q
  unfold gNe at e
  split at e
  · rename_i hh
    rw [Bool.and_eq_true] at hh
    cases e
    exact ⟨a, b, (va.dq s.sub).dp (SeqAt.canLay_of_shaped hh.1), (vb.dq s.sub).dp (SeqAt.canLay_of_shaped hh.2), hh.1, hh.2, q⟩
  · cases e
def gI (p : Int → Int → Bool) : PyData → PyData → Option Bool
  | .int i, .int j => some (p i j)
  | _, _ => none
theorem gI_ok {p : Int → Int → Bool} : CmpOk C (rI0 fun i j => .bl (p i j)) (gI p) := by
  intro a b k v u μ F H st Q s va vb e q
  unfold gI at e
  split at e
  · cases e; exact ⟨_, _, va.int, vb.int, q⟩
  · cases e
/-- is None; is True, is False -/
def gIsN : PyData → PyData → Option Bool
  | .none, .none => some true
  | _, .none => some false
  | _, _ => none
def gNotN (a b : PyData) : Option Bool := (gIsN a b).map (!·)
def isNone : PyData → Bool
  | .none => true
  | _ => false
theorem Vw.isN {K : Kw} {v : V} {d : PyData} (h : Vw K F H v d) : decide (v = .non) = isNone d := by
  cases d with
  | none => rw [h.non]; rfl
  | bool b => rw [h.bl]; rfl
  | int b => rw [h.int]; rfl
  | str b => rw [h.str]; rfl
  | tuple b => obtain ⟨p, xs, rfl, _⟩ := h.tup; rfl
  | list b => obtain ⟨p, xs, rfl, _⟩ := h; rfl
  | dict b =>
    rcases h with ⟨p, xs, rfl, _⟩ | ⟨x, r, rfl, h⟩
    · rfl
    · cases h <;> rfl
theorem gIsN_ok : CmpOk C (fun x y H Q => y = .non ∧ Q (.bl (decide (x = .non))) H) gIsN := by
  intro a b k v u μ F H st Q s va vb e q
  cases b with
  | none =>
    refine ⟨vb.non, ?_⟩
    rw [va.isN]
    cases a <;> (cases e; exact q)
  | _ => cases a <;> cases e
theorem gNotN_ok : CmpOk C (fun x y H Q => y = .non ∧ Q (.bl (!decide (x = .non))) H) gNotN := by
  intro a b k v u μ F H st Q s va vb e q
  cases b with
  | none =>
    refine ⟨vb.non, ?_⟩
    rw [va.isN]
    cases a <;> (cases e; exact q)
  | _ => cases a <;> cases e
def gIsB : PyData → PyData → Option Bool
  | .bool a, .bool b => some (decide (a = b))
  | _, _ => none
def gNotB : PyData → PyData → Option Bool
  | .bool a, .bool b => some (!decide (a = b))
  | _, _ => none
theorem gIsB_ok : CmpOk C rIsB gIsB := by
  intro a b k v u μ F H st Q s va vb e q
  unfold gIsB at e
  split at e
  · cases e; exact ⟨_, _, va.bl, vb.bl, q⟩
  · cases e
theorem gNotB_ok : CmpOk C rNotB gNotB := by
  intro a b k v u μ F H st Q s va vb e q
  unfold gNotB at e
  split at e
  · cases e; exact ⟨_, _, va.bl, vb.bl, q⟩
  · cases e
/-- in a list or tuple of flat things -/
def flatD : PyData → Bool
  | .none => true
  | .bool _ => true
  | .int _ => true
  | .str _ => true
  | _ => false
def eqF : PyData → PyData → Bool
  | .none, .none => true
  | .bool a, .bool b => a == b
  | .bool a, .int b => (if a then 1 else 0) == b
  | .int a, .bool b => a == (if b then 1 else 0)
  | .int a, .int b => a == b
  | .str a, .str b => a == b
  | _, _ => false
def itemsD : PyData → Option (List PyData)
  | .list xs => some xs
  | .tuple xs => some xs
  | _ => none
def gIn (neg : Bool) (a b : PyData) : Option Bool := match itemsD b with
  | some xs => if flatD a && xs.all flatD then some (if neg then !xs.any (fun y => eqF y a) else xs.any (fun y => eqF y a)) else none
  | none => none
theorem flat_dq {K : Kw} {v : V} {d : PyData} (h : Dq K F v d) (f : flatD d = true) : flatV v = true ∧ ∀ {u : V} {e : PyData}, Dq K F u e → flatD e = true → eqV u v = eqF e d := by
  cases h with
  | non => exact ⟨rfl, fun {u e} g fe => by cases g <;> first | rfl | cases fe⟩
  | bl b => exact ⟨rfl, fun {u e} g fe => by cases g <;> first | rfl | cases fe⟩
  | int b => exact ⟨rfl, fun {u e} g fe => by cases g <;> first | rfl | cases fe⟩
  | str b => exact ⟨rfl, fun {u e} g fe => by cases g <;> first | rfl | cases fe⟩
  | lst _ _ => cases f
  | tup _ _ => cases f
  | dic _ _ => cases f
  | dig _ _ _ _ => cases f
  | ins _ _ _ => cases f
theorem flat_all {K : Kw} {v : V} {d : PyData} (h : Dq K F v d) (f : flatD d = true) : ∀ {vs : List V} {ds : List PyData}, DqAll K F vs ds → ds.all flatD = true → vs.all flatV = true ∧ inV v vs = ds.any (fun y => eqF y d)
  | _, _, .nil, _ => ⟨rfl, rfl⟩
  | _, _, .cons (v := u) (vs := us) (d := e) (ds := es) g r, c => by
    rw [List.all_cons, Bool.and_eq_true] at c
    obtain ⟨h1, h2⟩ := flat_all h f r c.2
    refine ⟨by rw [List.all_cons, (flat_dq g c.1).1, h1]; rfl, ?_⟩
    show ((u :: us).any fun y => eqV y v) = ((e :: es).any fun y => eqF y d)
    rw [List.any_cons, List.any_cons, (flat_dq h f).2 g c.1]
    exact congrArg _ h2
theorem Vw.flat {K : Kw} {v : V} {d : PyData} (h : Vw K F H v d) (f : flatD d = true) : Dq K F v d := by
  cases d with
  | list xs => cases f
  | dict xs => cases f
  | _ => exact h
theorem gIn_ok {K : PySem.W.Frag} {neg : Bool} : CmpOk C (rIn K neg) (gIn neg) := by
  intro a b k v u μ F H st Q s va vb e q
  unfold gIn at e
  cases b with
  | list ds =>
    simp only [itemsD] at e
    split at e
    · rename_i hh
      rw [Bool.and_eq_true] at hh
      cases e
      obtain ⟨p, xs, rfl, p1, p2⟩ := vb
      obtain ⟨h1, h2⟩ := flat_all (va.flat hh.1) hh.1 p2 hh.2
      exact ⟨p, xs, rfl, .inl (SqL.of p1), (flat_dq (va.flat hh.1) hh.1).1, h1, by rw [h2]; exact q⟩
    · cases e
  | tuple ds =>
    simp only [itemsD] at e
    split at e
    · rename_i hh
      rw [Bool.and_eq_true] at hh
      cases e
      obtain ⟨p, xs, rfl, p1, p2⟩ := vb.tup
      obtain ⟨h1, h2⟩ := flat_all (va.flat hh.1) hh.1 p2 hh.2
      exact ⟨p, xs, rfl, .inr (SqT.of (s.sub _ _ p1)), (flat_dq (va.flat hh.1) hh.1).1, h1, by rw [h2]; exact q⟩
    · cases e
  | _ => cases e

/-! ### truth, and, or, not, if -/
def truD : PyData → Option Bool
  | .none => some false
  | .bool b => some b
  | .int i => some (i != 0)
  | .str y => if y.length ≤ sizeLine then some ((y.length : Int) != 0) else none
  | .list xs => some (!xs.isEmpty)
  | .tuple xs => some (!xs.isEmpty)
  | .dict xs => if flK xs then some (!xs.isEmpty) else none
theorem truD_ok {K : Kw} {K' : PySem.W.Frag} {v : V} {d : PyData} {k : Bool} (s : Same F H) (h : Vw K F H v d) (e : truD d = some k) : TruV K' v H k := by
  cases d with
  | none => cases e; rw [h.non]; exact rfl
  | bool b => cases e; rw [h.bl]; exact rfl
  | int b => cases e; rw [h.int]; exact rfl
  | str b =>
    rw [h.str]
    simp only [truD] at e
    by_cases hz : b.length ≤ sizeLine
    · rw [if_pos hz] at e; cases e; exact ⟨hz, rfl⟩
    · rw [if_neg hz] at e; cases e
  | list b => cases e; obtain ⟨p, xs, rfl, h1, h2⟩ := h; exact .inl ⟨xs, SqL.of h1, by cases h2 <;> rfl⟩
  | tuple b => cases e; obtain ⟨p, xs, rfl, h1, h2⟩ := h.tup; exact .inr (.inl ⟨xs, SqT.of (s _ _ h1), by cases h2 <;> rfl⟩)
  | dict b =>
    simp only [truD] at e
    by_cases hf : flK b = true
    · rw [if_pos hf] at e; cases e; obtain ⟨p, xs, rfl, h1, h2⟩ := h.flat_dict hf; exact .inr (.inr ⟨xs, h1, by cases h2 <;> rfl⟩)
    · rw [if_neg hf] at e; cases e
def mTru (m : Ev) : En → Sto → Res Bool := fun ρ st => (mV m ρ st).bind fun x s => okB ((view s x).bind truD) s
/-- an expression as a test -/
theorem s_test (h : PE X e (tM C m)) (he : ∀ whole, isTrue e X.env whole = (do let v ← whole; standAt e.pos; holding [v] (truthy v))) : PT X e (tT C (mTru m)) := by
  have h := pt_truth (pv_frz h) he
  refine ⟨fun pins s σ H Q I ⟨ρ, st, μ, F, h1, h2, h3⟩ => h.run pins s σ H Q I ⟨ρ, st, μ, F, h1, h2, ?_⟩⟩
  refine Post.bindV gB_lat h3 fun x s v μ1 F1 H1 x1 r1 k1 h4 => ?_
  cases q1 : view s x with
  | none => simp only [q1, Option.bind, okB] at h4; exact False.elim h4
  | some d =>
    cases q2 : truD d with
    | none => simp only [q1, q2, Option.bind, okB] at h4; exact False.elim h4
    | some k =>
      simp only [q1, q2, Option.bind, okB] at h4
      exact ⟨k, truD_ok r1.sub (view_ok r1 k1 q1) q2, h4 μ1 F1 H1 Ext.refl r1⟩
/-- a test as it is seen by one that wants the answer's continuation -/
theorem tT_bind {β : Type} {G : β → Sto → List Addr → Hp → Hp → Prop} (gl : Lat G) {m : En → Sto → Res Bool} {kk : Bool → Sto → Res β} {σ : St} {ρ : En} {R : Bool → Hp → Prop} (h1 : Eok C.K F μ ρ σ) (h2 : SR C.K μ F H st)
    (h3 : Post (C.at σ) G μ F H ((m ρ st).bind kk)) (fin : ∀ k s μ1 F1 H1, Ext μ F H μ1 F1 H1 → SR C.K μ1 F1 H1 s → Eok C.K F1 μ1 ρ σ → Post (C.at σ) G μ1 F1 H1 (kk k s) → R k H1) : tT C m σ H R :=
  ⟨ρ, st, μ, F, h1, h2, Post.bindB gl h3 fun x s μ1 F1 H1 x1 r1 h4 => fin x s μ1 F1 H1 x1 r1 (h1.ext x1) h4⟩
def bAnd (ma mb : En → Sto → Res Bool) : En → Sto → Res Bool := fun ρ st => (ma ρ st).bind fun k s => if k = true then mb ρ s else .ok false s
def bOr (ma mb : En → Sto → Res Bool) : En → Sto → Res Bool := fun ρ st => (ma ρ st).bind fun k s => if k = true then .ok true s else mb ρ s
def bNot (ma : En → Sto → Res Bool) : En → Sto → Res Bool := fun ρ st => (ma ρ st).bind fun k s => .ok (!k) s
variable {ba bb bc : En → Sto → Res Bool} {rest : List Expr}
theorem w_and1 (ha : PT X a (tT C ba)) : PW X (.BoolOp .And [a] pos) (tT C ba) := pw_and1 ha
theorem w_or1 (ha : PT X a (tT C ba)) : PW X (.BoolOp .Or [a] pos) (tT C ba) := pw_or1 ha
theorem _root_.L2.PW.imp {t t' : TT} (h : PW X e t) (w : ∀ σ H Q, t' σ H Q → t σ H Q) : PW X e t' := ⟨fun wh pins s σ H Q I h' => h.run wh pins s σ H Q I (w σ H Q h')⟩
theorem _root_.L2.PT.imp {t t' : TT} (h : PT X e t) (w : ∀ σ H Q, t' σ H Q → t σ H Q) : PT X e t' := ⟨fun pins s σ H Q I h' => h.run pins s σ H Q I (w σ H Q h')⟩
theorem w_and (ha : PT X a (tT C ba)) (hb : PW X (.BoolOp .And (b :: rest) pos) (tT C bb)) : PW X (.BoolOp .And (a :: b :: rest) pos) (tT C (bAnd ba bb)) :=
  (pw_and ha hb).imp fun σ H Q ⟨ρ, st, μ, F, h1, h2, h3⟩ => tT_bind gB_lat h1 h2 h3 fun k s μ1 F1 H1 x1 r1 e1 h4 => by
    cases k with
    | true => simp only [if_true] at h4 ⊢; exact ⟨ρ, s, μ1, F1, e1, r1, h4⟩
    | false => simp only [Bool.false_eq_true, if_false] at h4 ⊢; exact h4 μ1 F1 H1 Ext.refl r1
theorem w_or (ha : PT X a (tT C ba)) (hb : PW X (.BoolOp .Or (b :: rest) pos) (tT C bb)) : PW X (.BoolOp .Or (a :: b :: rest) pos) (tT C (bOr ba bb)) :=
  (pw_or ha hb).imp fun σ H Q ⟨ρ, st, μ, F, h1, h2, h3⟩ => tT_bind gB_lat h1 h2 h3 fun k s μ1 F1 H1 x1 r1 e1 h4 => by
    cases k with
    | false => simp only [Bool.false_eq_true, if_false] at h4 ⊢; exact ⟨ρ, s, μ1, F1, e1, r1, h4⟩
    | true => simp only [if_true] at h4 ⊢; exact h4 μ1 F1 H1 Ext.refl r1
theorem s_notT (ha : PT X a (tT C ba)) : PT X (.UnaryOp .Not a pos) (tT C (bNot ba)) :=
  (pt_not ha).imp fun σ H Q ⟨ρ, st, μ, F, h1, h2, h3⟩ => tT_bind gB_lat h1 h2 h3 fun k s μ1 F1 H1 x1 r1 e1 h4 => h4 μ1 F1 H1 Ext.refl r1
def eIf (c : En → Sto → Res Bool) (ma mb : Ev) : Ev := fun ρ st => (c ρ st).bind fun k s => if k = true then ma ρ s else mb ρ s
theorem s_ifE {ce : Expr} (hc : PT X ce (tT C bc)) (ha : PE X a (tM C ma)) (hb : PE X b (tM C mb)) : PE X (.IfExp ce a b pos) (tM C (eIf bc ma mb)) :=
  (pe_ifExp hc ha hb).imp fun σ H Q ⟨ρ, st, μ, F, h1, h2, h3⟩ => tT_bind gE_lat h1 h2 h3 fun k s μ1 F1 H1 x1 r1 e1 h4 => by
    cases k with
    | true => simp only [if_true] at h4 ⊢; exact ⟨ρ, s, μ1, F1, e1, r1, h4⟩
    | false => simp only [Bool.false_eq_true, if_false] at h4 ⊢; exact ⟨ρ, s, μ1, F1, e1, r1, h4⟩
/-- and, or, not as values: all but the last give a bool -/
def boolOf : PyData → Option Bool
  | .bool b => some b
  | _ => none
def eAnd (ma mb : Ev) : Ev := fun ρ st => (mV ma ρ st).bind fun x s => match x with
  | .d (.bool true) => mb ρ s
  | .d (.bool false) => .ok (.d (.bool false)) s
  | _ => .no
def eOr (ma mb : Ev) : Ev := fun ρ st => (mV ma ρ st).bind fun x s => match x with
  | .d (.bool true) => .ok (.d (.bool true)) s
  | .d (.bool false) => mb ρ s
  | _ => .no
def eNot (ma : Ev) : Ev := fun ρ st => (mV ma ρ st).bind fun x s => match x with
  | .d (.bool k) => .ok (.d (.bool (!k))) s
  | _ => .no
theorem s_one {op} (ha : PE X a (tM C ma)) : PE X (.BoolOp op [a] pos) (tM C ma) := pe_one ha
theorem s_and (ha : PE X a (tM C ma)) (hb : PE X (.BoolOp .And (b :: rest) pos) (tM C mb)) : PE X (.BoolOp .And (a :: b :: rest) pos) (tM C (eAnd ma mb)) :=
  (pe_and (pv_frz ha) hb).imp fun σ H Q ⟨ρ, st, μ, F, h1, h2, h3⟩ => ⟨ρ, st, μ, F, h1, h2, Post.bindV gE_lat h3 fun x s v μ1 F1 H1 x1 r1 k1 h4 => by
    cases x with
    | c i => exact False.elim h4
    | s i => exact False.elim h4
    | o i => exact False.elim h4
    | d x =>
      cases x with
      | bool k =>
        cases (show Dq C.K F1 v (.bool k) from k1)
        refine ⟨k, rfl, ?_⟩
        cases k with
        | true => simp only [if_true]; exact ⟨ρ, s, μ1, F1, h1.ext x1, r1, h4⟩
        | false => simp only [Bool.false_eq_true, if_false]; exact fin_d r1 h4 (.bl false)
      | _ => exact False.elim h4⟩
theorem s_or (ha : PE X a (tM C ma)) (hb : PE X (.BoolOp .Or (b :: rest) pos) (tM C mb)) : PE X (.BoolOp .Or (a :: b :: rest) pos) (tM C (eOr ma mb)) :=
  (pe_or (pv_frz ha) hb).imp fun σ H Q ⟨ρ, st, μ, F, h1, h2, h3⟩ => ⟨ρ, st, μ, F, h1, h2, Post.bindV gE_lat h3 fun x s v μ1 F1 H1 x1 r1 k1 h4 => by
    cases x with
    | c i => exact False.elim h4
    | s i => exact False.elim h4
    | o i => exact False.elim h4
    | d x =>
      cases x with
      | bool k =>
        cases (show Dq C.K F1 v (.bool k) from k1)
        refine ⟨k, rfl, ?_⟩
        cases k with
        | false => simp only [Bool.false_eq_true, if_false]; exact ⟨ρ, s, μ1, F1, h1.ext x1, r1, h4⟩
        | true => simp only [if_true]; exact fin_d r1 h4 (.bl true)
      | _ => exact False.elim h4⟩
theorem s_not (ha : PE X a (tM C ma)) : PE X (.UnaryOp .Not a pos) (tM C (eNot ma)) :=
  (pe_not (pv_frz ha)).imp fun σ H Q ⟨ρ, st, μ, F, h1, h2, h3⟩ => ⟨ρ, st, μ, F, h1, h2, Post.bindV gE_lat h3 fun x s v μ1 F1 H1 x1 r1 k1 h4 => by
    cases x with
    | c i => exact False.elim h4
    | s i => exact False.elim h4
    | o i => exact False.elim h4
    | d x =>
      cases x with
      | bool k =>
        cases (show Dq C.K F1 v (.bool k) from k1)
        exact ⟨k, rfl, fin_d r1 h4 (.bl _)⟩
      | _ => exact False.elim h4⟩
end
end Cp
/-! Cp3: places, slices, displays, calls of built-in functions and methods. -/
namespace Cp
open PySem L2
section
variable {X : Cx} {C : Cn} {Q : VK} {μ : List Addr} {F H : Hp} {st : Sto} {e a b c : Expr} {m ma mb mc : Ev} {pos : Pos} {es : List Expr}

/-! ### places -/
theorem atI_dq {K : Kw} {xs : List V} {ds : List PyData} {i : Int} {d : PyData} (r : DqAll K F xs ds) (h : atI ds i = some d) : ∃ v, atI xs i = some v ∧ Dq K F v d := by
  unfold atI at h ⊢
  rw [r.length]
  cases q : ixN ds.length i with
  | none => rw [q] at h; cases h
  | some j =>
    rw [q] at h
    obtain ⟨v, h1, h2⟩ := r.get (show ds[j]? = some d from h)
    exact ⟨v, h1, h2⟩
theorem atI_ints {ns : List Int} {i k : Int} (h : atI ns i = some k) : atI (ns.map V.int) i = some (.int k) := by
  unfold atI at h ⊢
  rw [List.length_map]
  cases q : ixN ns.length i with
  | none => rw [q] at h; cases h
  | some j =>
    rw [q] at h
    have h : ns[j]? = some k := h
    show (ns.map V.int)[j]? = some (.int k)
    rw [List.getElem?_map, h]; rfl
def fIx : PyData → PyData → Option Rv
  | .list xs, .int i => (atI xs i).map .d
  | .tuple xs, .int i => (atI xs i).map .d
  | .str z, .int i => if z.length ≤ sizeLine then (atI z.cps.toList i).map fun c => .d (.str ⟨#[c]⟩) else none
  | _, _ => none
theorem fIx_ok {K : PySem.W.Frag} : BinOk C (rIx K) fIx := by
  intro a b res v u μ F H st Q s va vb e h
  unfold fIx at e
  split at e
  · obtain ⟨p, xs, rfl, p1, p2⟩ := va
    obtain ⟨d, hd, rfl⟩ := Option.map_eq_some_iff.mp e
    obtain ⟨w, h1, h2⟩ := atI_dq p2 hd
    exact .inl ⟨p, xs, _, w, rfl, vb.int, SqL.of p1, h1, fin_d s h h2⟩
  · obtain ⟨p, xs, rfl, p1, p2⟩ := va.tup
    obtain ⟨d, hd, rfl⟩ := Option.map_eq_some_iff.mp e
    obtain ⟨w, h1, h2⟩ := atI_dq p2 hd
    exact .inr (.inl ⟨p, xs, _, w, rfl, vb.int, SqT.of (s.sub _ _ p1), h1, fin_d s h h2⟩)
  · split at e
    · rename_i hz
      obtain ⟨d, hd, rfl⟩ := Option.map_eq_some_iff.mp e
      exact .inr (.inr ⟨_, _, d, va.str, vb.int, hz, hd, fin_d s h (.str _)⟩)
    · cases e
  · cases e
theorem s_ix (ha : PE X a (tM C ma)) (hb : PE X b (tM C mb)) (hs : PlainIx b) : PE X (.Subscript a b pos) (tM C (mBin fIx ma mb)) :=
  s_two (pe_ix ix_seq (pv_frz ha) (pv_frz hb) hs) fIx_ok
/-- script[i] -/
def mSix (ma mb : Ev) : Ev := fun ρ st => (mV ma ρ st).bind fun x s1 => (mV mb ρ s1).bind fun y s2 => match x, y with
  | .s ns, .d (.int i) => match atI ns i with
    | some k => .ok (.d (.int k)) s2
    | none => .no
  | _, _ => .no
theorem s_six (hK : C.K = X.K) (ha : PE X a (tM C ma)) (hb : PE X b (tM C mb)) (hs : PlainIx b) : PE X (.Subscript a b pos) (tM C (mSix ma mb)) :=
  (pe_ix ix_seq (pv_frz ha) (pv_frz hb) hs).imp fun σ H Q ⟨ρ, st, μ, F, h1, h2, h3⟩ => ⟨ρ, st, μ, F, h1, h2, Post.bindV gE_lat h3 fun x s v μ1 F1 H1 x1 r1 k1 h4 =>
    ⟨ρ, s, μ1, F1, h1.ext x1, r1, Post.bindV gE_lat h4 fun y s2 u μ2 F2 H2 x2 r2 k2 h5 => by
      cases x with
      | d _ => exact False.elim h5
      | c _ => exact False.elim h5
      | o _ => exact False.elim h5
      | s ns =>
        cases y with
        | s _ => exact False.elim h5
        | o _ => exact False.elim h5
        | c _ => exact False.elim h5
        | d y =>
          cases y with
          | int i =>
            cases q : atI ns i with
            | none => simp only [q] at h5; exact False.elim h5
            | some k =>
              simp only [q] at h5
              obtain ⟨p, rfl, hp⟩ := k1
              cases (show Dq C.K F2 u (.int i) from k2)
              exact .inl ⟨p, _, i, .int k, rfl, rfl, hK ▸ (r2.sub).seq (x2.same.seq hp), atI_ints q, fin_d r2 h5 (.int k)⟩
          | _ => exact False.elim h5⟩⟩

/-! ### argument lists, displays -/
def aNil : En → Sto → Res (List Vl) := fun _ st => .ok [] st
def aCons (mv : En → Sto → Res Vl) (mr : En → Sto → Res (List Vl)) : En → Sto → Res (List Vl) := fun ρ st => (mv ρ st).bind fun x s1 => (mr ρ s1).bind fun xs s2 => .ok (x :: xs) s2
theorem _root_.L2.PA.imp {t t' : TA} (h : PA X es t) (w : ∀ σ H Q, t' σ H Q → t σ H Q) : PA X es t' := ⟨fun pos pins s σ H Q I h' => h.run pos pins s σ H Q I (w σ H Q h')⟩
theorem a_nil : PA X [] (tAs C aNil) := pa_nil.imp fun σ H Q ⟨ρ, st, μ, F, h1, h2, h3⟩ => h3 [] μ F H Ext.refl h2 .nil
theorem a_consV {mv : En → Sto → Res Vl} {mr : En → Sto → Res (List Vl)} (ha : PE X e (tV C mv)) (hr : PA X es (tAs C mr)) (hs : starEach (e :: es) X.env = (false, eval e X.env) :: starEach es X.env := by rfl) : PA X (e :: es) (tAs C (aCons mv mr)) :=
  (pa_cons ha hr hs).imp fun σ H Q ⟨ρ, st, μ, F, h1, h2, h3⟩ => ⟨ρ, st, μ, F, h1, h2, Post.bindV gA_lat h3 fun x s v μ1 F1 H1 x1 r1 k1 h4 =>
    ⟨ρ, s, μ1, F1, h1.ext x1, r1, Post.bindA gA_lat h4 fun y s2 u μ2 F2 H2 x2 r2 k2 h5 => h5 (v :: u) μ2 F2 H2 Ext.refl r2 (.cons (k1.ext x2) k2)⟩⟩
theorem a_cons {mr : En → Sto → Res (List Vl)} (ha : PE X e (tM C m)) (hr : PA X es (tAs C mr)) (hs : starEach (e :: es) X.env = (false, eval e X.env) :: starEach es X.env := by rfl) : PA X (e :: es) (tAs C (aCons (mV m) mr)) := a_consV (pv_frz ha) hr hs
theorem a_consC {mr : En → Sto → Res (List Vl)} (ha : PE X e (tM C m)) (hr : PA X es (tAs C mr)) (hs : starEach (e :: es) X.env = (false, eval e X.env) :: starEach es X.env := by rfl) : PA X (e :: es) (tAs C (aCons (mVc m) mr)) := a_consV (pv_cell ha) hr hs
theorem a_consZ {mr : En → Sto → Res (List Vl)} (ha : PE X e (tM C m)) (hr : PA X es (tAs C mr)) (hs : starEach (e :: es) X.env = (false, eval e X.env) :: starEach es X.env := by rfl) : PA X (e :: es) (tAs C (aCons (mVz m) mr)) := a_consV (pv_gone ha) hr hs
def allD : List Vl → Option (List PyData)
  | [] => some []
  | .d x :: r => match allD r with
    | some xs => some (x :: xs)
    | none => none
  | _ :: _ => none
theorem allD_ok {K : Kw} : ∀ {xs : List Vl} {vs : List V} {ds : List PyData}, VokAll K F μ xs vs → allD xs = some ds → DqAll K F vs ds
  | _, _, _, .nil, e => by cases e; exact .nil
  | x :: xs, _, _, .cons h r, e => by
    cases x with
    | c i => cases e
    | s i => cases e
    | o i => cases e
    | d x =>
      unfold allD at e
      cases q : allD xs with
      | none => simp only [q] at e; cases e
      | some ys => simp only [q] at e; cases e; exact .cons h (allD_ok r q)
def mTup (ma : En → Sto → Res (List Vl)) : Ev := fun ρ st => (ma ρ st).bind fun xs s => match allD xs with
  | some ds => if ds.length ≤ sizeLine then .ok (.d (.tuple ds)) s else .no
  | none => .no
def mLst (ma : En → Sto → Res (List Vl)) : Ev := fun ρ st => (ma ρ st).bind fun xs s => match allD xs with
  | some ds => if ds.length ≤ sizeLine then .ok (.n (.l ds)) s else .no
  | none => .no
variable {mas : En → Sto → Res (List Vl)}
theorem s_tup {k} (h : PA X es (tAs C mas)) : PE X (.Tuple es k pos) (tM C (mTup mas)) := (pe_tup h).imp fun σ H Q ⟨ρ, st, μ, F, h1, h2, h3⟩ => ⟨ρ, st, μ, F, h1, h2, Post.bindA gE_lat h3 fun x s v μ1 F1 H1 x1 r1 k1 h4 => by
  cases q : allD x with
  | none => simp only [q] at h4; exact False.elim h4
  | some ds =>
    simp only [q] at h4
    have r := allD_ok k1 q
    split at h4
    · exact ⟨by rw [r.length]; assumption, fun p hp => fin_t r1 h4 hp r⟩
    · exact False.elim h4⟩
theorem s_lst (h : PA X es (tAs C mas)) : PE X (.List es pos) (tM C (mLst mas)) := (pe_lst h).imp fun σ H Q ⟨ρ, st, μ, F, h1, h2, h3⟩ => ⟨ρ, st, μ, F, h1, h2, Post.bindA gE_lat h3 fun x s v μ1 F1 H1 x1 r1 k1 h4 => by
  cases q : allD x with
  | none => simp only [q] at h4; exact False.elim h4
  | some ds =>
    simp only [q] at h4
    have r := allD_ok k1 q
    split at h4
    · exact ⟨by rw [r.length]; assumption, fun p hp => fin_n r1 h4 hp ⟨_, rfl, r⟩⟩
    · exact False.elim h4⟩

/-! ### slices -/
abbrev gO (C : Cn) (Q : Option Int → Hp → Prop) : Option Int → Sto → List Addr → Hp → Hp → Prop := fun o st μ F H => ∀ μ' F' H', Ext μ F H μ' F' H' → SR C.K μ' F' H' st → Q o H'
def tO (C : Cn) (m : En → Sto → Res (Option Int)) : TO := fun σ H Q => At C σ H fun ρ st μ F => Post (C.at σ) (gO C Q) μ F H (m ρ st)
def oNone : En → Sto → Res (Option Int) := fun _ st => .ok none st
def oSome (m : Ev) : En → Sto → Res (Option Int) := fun ρ st => (mV m ρ st).bind fun x s => match x with
  | .d (.int i) => .ok (some i) s
  | _ => .no
theorem _root_.L2.PO.imp {o : Option Expr} {t t' : TO} (h : PO X o t) (w : ∀ σ H Q, t' σ H Q → t σ H Q) : PO X o t' := ⟨fun pins s σ H Q I h' => h.run pins s σ H Q I (w σ H Q h')⟩
theorem o_none : PO X none (tO C oNone) := po_none.imp fun σ H Q ⟨ρ, st, μ, F, h1, h2, h3⟩ => h3 μ F H Ext.refl h2
theorem gO_lat {Q : Option Int → Hp → Prop} : Lat (gO C Q) := ⟨fun x h μ' F' H' y s => h μ' F' H' (x.trans y) s⟩
theorem o_some (h : PE X e (tM C m)) : PO X (some e) (tO C (oSome m)) := (po_some (pv_frz h)).imp fun σ H Q ⟨ρ, st, μ, F, h1, h2, h3⟩ => ⟨ρ, st, μ, F, h1, h2, Post.bindV gO_lat h3 fun x s v μ1 F1 H1 x1 r1 k1 h4 => by
  cases x with
  | c i => exact False.elim h4
  | s i => exact False.elim h4
  | o i => exact False.elim h4
  | d x =>
    cases x with
    | int i => cases (show Dq C.K F1 v (.int i) from k1); exact ⟨i, rfl, h4 μ1 F1 H1 Ext.refl r1⟩
    | _ => exact False.elim h4⟩
def cutD (xs : List PyData) (lo hi : Option Int) : List PyData := (xs.drop (HT.sIx xs.length 0 lo)).take (HT.sIx xs.length xs.length hi - HT.sIx xs.length 0 lo)
def fSl (a : PyData) (lo hi : Option Int) : Option Rv := match a with
  | .list xs => some (.n (.l (cutD xs lo hi)))
  | .tuple xs => some (.d (.tuple (cutD xs lo hi)))
  | .str z => if z.length ≤ sizeLine then some (.d (.str (cutS z lo hi))) else none
  | _ => none
theorem cut_dq {K : Kw} {xs : List V} {ds : List PyData} (r : DqAll K F xs ds) (lo hi : Option Int) : DqAll K F (cutV xs lo hi) (cutD ds lo hi) := by
  unfold cutV cutD
  rw [r.length]
  exact (r.drop _).take _
def mSl (ma : Ev) (ml mh : En → Sto → Res (Option Int)) : Ev := fun ρ st => (mV ma ρ st).bind fun x s1 => (ml ρ s1).bind fun l s2 => (mh ρ s2).bind fun h s3 => match view s3 x with
  | some d => match fSl d l h with
    | some r => .ok r s3
    | none => .no
  | none => .no
theorem s_sl {lo hi : Option Expr} {p2 : Pos} {ml mh : En → Sto → Res (Option Int)} (ha : PE X a (tM C ma)) (hl : PO X lo (tO C ml)) (hh : PO X hi (tO C mh)) : PE X (.Subscript a (.Slice lo hi none p2) pos) (tM C (mSl ma ml mh)) := by
  have h := pe_slice (pos := pos) (p2 := p2) (SlR.or (sl_list (X := X)) (SlR.or sl_tupA sl_str)) (pv_frz ha) hl hh
  refine h.imp fun σ H Q ⟨ρ, st, μ, F, h1, h2, h3⟩ => ⟨ρ, st, μ, F, h1, h2, Post.bindV gE_lat h3 fun x s v μ1 F1 H1 x1 r1 k1 h4 => ⟨ρ, s, μ1, F1, h1.ext x1, r1, ?_⟩⟩
  have bindO : ∀ {β : Type} {G : β → Sto → List Addr → Hp → Hp → Prop} (g : Lat G) {mm : Res (Option Int)} {k : Option Int → Sto → Res β} {R : Option Int → Hp → Prop} {μ : List Addr} {F H : Hp}, Post (C.at σ) G μ F H (mm.bind k) →
      (∀ x s μ1 F1 H1, Ext μ F H μ1 F1 H1 → SR C.K μ1 F1 H1 s → Post (C.at σ) G μ1 F1 H1 (k x s) → R x H1) → Post (C.at σ) (gO C R) μ F H mm := by
    intro β G g mm k R μ F H h hk
    cases mm with
    | ok x s => exact fun μ1 F1 H1 e s1 => hk x s μ1 F1 H1 e s1 (Post.later g e h)
    | er e s => exact h
    | no => exact h
  refine bindO gE_lat h4 fun l s2 μ2 F2 H2 x2 r2 h5 => ⟨ρ, s2, μ2, F2, (h1.ext x1).ext x2, r2, bindO gE_lat h5 fun hh s3 μ3 F3 H3 x3 r3 h6 => ?_⟩
  have k3 := (k1.ext x2).ext x3
  cases q : view s3 x with
  | none => simp only [q] at h6; exact False.elim h6
  | some d =>
    simp only [q] at h6
    have w := view_ok r3 k3 q
    cases d with
    | list ds =>
      simp only [fSl] at h6
      obtain ⟨p, xs, rfl, p1, p2⟩ := w
      exact .inl ⟨p, xs, rfl, SqL.of p1, fun r hr => fin_n r3 h6 hr ⟨_, rfl, cut_dq p2 _ _⟩⟩
    | tuple ds =>
      simp only [fSl] at h6
      obtain ⟨p, xs, rfl, p1, p2⟩ := w.tup
      refine .inr (.inl ⟨p, xs, rfl, SqT.of (r3.sub _ _ p1), fun hw => ?_, fun _ r hr => fin_t r3 h6 hr (cut_dq p2 _ _)⟩)
      have e : cutD ds l hh = ds := by
        rw [p2.length] at hw
        unfold cutD
        rw [hw.1, hw.2]; simp
      rw [e] at h6
      exact fin_d r3 h6 (.tup p1 p2)
    | str z =>
      simp only [fSl] at h6
      by_cases hz : z.length ≤ sizeLine
      · rw [if_pos hz] at h6
        exact .inr (.inr ⟨z, w.str, hz, fin_d r3 h6 (.str _)⟩)
      · rw [if_neg hz] at h6; exact False.elim h6
    | _ => exact False.elim h6
end
end Cp
/-! Cs: data read off the heap, sorted, shown. -/
namespace Cp
open PySem L2
section
variable {X : Cx} {pins : List (Addr × Obj)} {σ : St} {H F : Hp} {s : Shared} {K : Kw}
theorem key_reads {P : Program} {w : World} {h : Heap} (k : Key) (v : Value) (e : (mixKind P w).is k v = true) : Reads h v (kD k) [] := by
  rcases keyIs_shape (k := k) (v := v) e with ⟨i, t, rfl, rfl⟩ | ⟨x, t, rfl, rfl⟩
  · exact .int i t
  · exact .str x t
mutual
theorem Dq.reads (I : Inv X pins σ H s) : ∀ {v : V} {d : PyData} {u : Value}, Dq K H v d → RelV v u → d.hasDict = false → ∃ as, Reads s.heap u d as
  | _, _, _, .non, r, _ => by cases r; exact ⟨_, .none⟩
  | _, _, _, .bl b, r, _ => by cases r; exact ⟨_, .bool b⟩
  | _, _, _, .int i, r, _ => by obtain ⟨t, rfl⟩ := r; exact ⟨_, .int i t⟩
  | _, _, _, .str x, r, _ => by obtain ⟨t, rfl⟩ := r; exact ⟨_, .str x t⟩
  | _, _, _, .lst h q, r, n => by
    cases r
    obtain ⟨its, rv, ⟨o, k, ho, hc, _, hd⟩, _⟩ := I.list (SqL.of h)
    obtain ⟨as, hr⟩ := DqAll.reads I q rv n
    exact ⟨_, .list ho hc hd hr⟩
  | _, _, _, .tup h q, r, n => by
    cases r
    obtain ⟨its, rv, ⟨o, ho, hc, k, hd⟩, _⟩ := I.tuple (SqT.of h)
    obtain ⟨as, hr⟩ := DqAll.reads I q rv n
    exact ⟨_, .tuple ho hc hd hr⟩
  | _, _, _, .dic _ _, _, n => by cases n
  | _, _, _, .dig _ _ _ _, _, n => by cases n
  | _, _, _, .ins _ _ _, _, n => by cases n
theorem DqAll.reads (I : Inv X pins σ H s) : ∀ {vs : List V} {ds : List PyData} {us : List Value}, DqAll K H vs ds → Vals vs us → PyData.hasDictAll ds = false → ∃ as, ReadsAll s.heap us ds as
  | _, _, _, .nil, r, _ => by cases r; exact ⟨_, .nil⟩
  | _, _, _, .cons h q, r, n => by
    have n' : (PyData.hasDict _ || PyData.hasDictAll _) = false := n
    rw [Bool.or_eq_false_iff] at n'
    cases r with
    | cons r1 r2 =>
      obtain ⟨as, q1⟩ := Dq.reads I h r1 n'.1
      obtain ⟨bs, q2⟩ := DqAll.reads I q r2 n'.2
      exact ⟨_, .cons q1 q2⟩
end
end

/-! ### sorted of a list or a tuple -/
section
open PySem.W PyProof.Rows
variable {prog : Program} {w : World} {A : Around} {E : Value → Shared → Prop} {s : Shared}
theorem collect_tup {l : Addr} {vs : List Value} {P : List Value → Shared → Prop} (ht : IsTup s.heap l vs.toArray) (hz : vs.length ≤ sizeLine)
    (h : P vs { s with heap := (s.heap.push (seqObj "list" #[] 0)).update s.heap.objs.size (Obj.mapSeq (· ++ vs.toArray)) }) : wpAny (model prog w) A (collect (.ref l)) P E s := by
  obtain ⟨o, ho, hc, n, hd⟩ := id ht
  unfold collect
  refine wpAny_bind (wpAny_runValue (codeAny_builtin entry_proto_collect' ?_))
  show wpAny _ _ (do again (.builtin "list.__iadd__" ⟨[← newList [], Value.ref l], []⟩)) _ _ s
  refine wpAny_bind (wpAny_newList (wpAny_pure ⟨Code.quiet_builtin _ (by decide +kernel), codeAny_builtin entry_list_iadd' ?_⟩))
  show wpAny _ _ (Builtin.List.listExtendWith (Value.ref s.heap.objs.size) (Value.ref l) (Value.ref s.heap.objs.size)) _ _ { s with heap := s.heap.push (seqObj "list" #[] 0) }
  unfold Builtin.List.listExtendWith
  have h1 : (s.heap.push (seqObj "list" #[] 0)).get? l = some o := Heap.get?_push_of_some _ ho
  refine wpAny_bind (wpAny_typeOf (T := "tuple") ⟨o, h1, hc⟩ ?_)
  have tt : (Value.type "tuple" == Value.type "tuple") = true := rfl
  rw [if_pos (by rw [tt]; simp)]
  refine wpAny_bind (listItems_at h1 hd (wpAny_bind (listItems_at (xs := #[]) (n := 0) (Heap.get?_push_size _ rfl) rfl ?_)))
  rw [if_neg (by simp)]
  refine wpAny_bind (listUpdate_at (xs := #[]) (n := 0) (Heap.get?_push_size _ rfl) rfl (wpAny_pure ?_) (Nat.zero_le _) (by show (#[] ++ vs.toArray).size ≤ sizeLine + 1; simp only [Array.size_append, List.size_toArray, List.length_nil]; omega))
  show wpAny (model prog w) A (do
      let q ← load s.heap.objs.size
      match q.data with
      | .seq zs _ => pure zs.toList
      | _ => unsupported "internal:collect") P E { s with heap := (s.heap.push (seqObj "list" #[] 0)).update s.heap.objs.size (Obj.mapSeq (· ++ vs.toArray)) }
  refine wpAny_bind (wpAny_load (get?_update_seq (Heap.get?_push_size _ rfl) _) ?_)
  show wpAny _ _ (pure ((#[] : Array Value) ++ vs.toArray).toList) P E _
  rw [show ((#[] : Array Value) ++ vs.toArray).toList = vs by simp]
  exact wpAny_pure h
/-- as sorted_of_sort, over whatever collects so -/
theorem sorted_by {l : Addr} {vs : List Value} {P : Value → Shared → Prop} (hL : vs.length ≤ sizeLine)
    (hcol : ∀ (B : Around) (E' : Value → Shared → Prop) (R : List Value → Shared → Prop), R vs { s with heap := (s.heap.push (seqObj "list" #[] 0)).update s.heap.objs.size (Obj.mapSeq (· ++ vs.toArray)) } → wpAny (model prog w) B (collect (.ref l)) R E' s)
    (body : ∀ E' : Value → Shared → Prop, wpAny (model prog w) A.in1.in1 (Builtin.«list.sort» ⟨[Value.ref (s.heap.objs.size + 1)], []⟩) (fun f s' => f = .done (.ret Value.none) ∧ P (.ref (s.heap.objs.size + 1)) s') E' { s with heap := copyHeap s.heap vs }) :
    wpAny (model prog w) A (call (.builtin "sorted") [.ref l]) P E s := by
  refine call_function_entry_kw kind_sorted plain_sorted entry_sorted (args_sorted1 _) ?_
  unfold Builtin.«sorted»
  refine wpAny_bind (m := checkCount "sorted" 1 1 _) (wpAny_pure (wpAny_bind (hcol _ _ _ (wpAny_bind (wpAny_newList ?_ hL)))))
  have z : ((s.heap.push (seqObj "list" #[] 0)).update s.heap.objs.size (Obj.mapSeq (· ++ vs.toArray))).objs.size = s.heap.objs.size + 1 := by rw [Heap.size_update, size_push']
  show wpAny _ _ _ _ _ { s with heap := copyHeap s.heap vs }
  rw [z]
  refine wpAny_bind (wpAny_holding (wpAny_call_entry_kw slot_list_sort ⟨_, copyHeap_at s.heap vs, rfl⟩ entry_list_sort ?bdy (args_list_sort _)))
  case bdy =>
    show wpAny (model prog w) A.in1.in1 (Builtin.«list.sort» ⟨[Value.ref (s.heap.objs.size + 1)], []⟩) _ _ _
    refine wpAny_mono (body _) (fun f s' hf => ?_) fun _ _ q => q
    obtain ⟨rfl, hq⟩ := hf
    exact ⟨_, rfl, wpAny_pure ⟨_, rfl, hq⟩⟩
/-! ### tuples, the first one empty -/
open PySem.SeqAt in
theorem call_tuple_lt {Q : Value → Shared → Prop} {l b : Addr} {items items2 : Array Value} {e r : Nat → Bool} (hl : s.heap.IsTuple l items) (hb : s.heap.IsTuple b items2)
    (he : ∀ j (h1 : j < items.size) (h2 : j < items2.size), EqAt A.in1 s items[j] items2[j] (e j)) (hr : ∀ j (h1 : j < items.size) (h2 : j < items2.size), e j = false → RcLt A.in1 s items[j] items2[j] (r j))
    (h : Q (.bool (firstLt e r (decide (items.size < items2.size)) (List.range (min items.size items2.size)))) s) : wpAny (model prog w) A (call (.builtin "tuple.__lt__") [.ref l, .ref b]) Q E s := by
  obtain ⟨⟨cls, dd, data, sl⟩, ho, hc, n, hd⟩ := id hl
  obtain ⟨⟨cls2, dd2, data2, sl2⟩, ho2, hc2, n2, hd2⟩ := id hb
  simp only at hc hd hc2 hd2
  subst hc hd hc2 hd2
  exact call_meets F.slot_tuple_lt ⟨_, ho, rfl⟩ F.entry_tuple_lt (F.args_tuple_lt_2 _ _) (tuple_ltAt l b items items2 n n2 dd dd2 sl sl2 e r) ⟨ho, ho2, he, hr, h⟩
open PySem.SeqAt in
theorem oneLt_tup {xs ys : List PyData} {a b : Value} {as bs : List Addr} {Q : Bool → Shared → Prop} (ra : Reads s.heap a (.tuple xs) as) (rb : Reads s.heap b (.tuple ys) bs) (h : alike (.tuple xs) (.tuple ys) = true)
    (hu : A.units + min (PyData.tuple xs).depth (PyData.tuple ys).depth < cLine) (hq : Q (dataLt (.tuple xs) (.tuple ys)) s) : wpAny (model prog w) A (oneLt' true a b) Q E s := by
  have hal : alikeAll xs ys = true := by simpa [alike] using h
  cases ra with
  | @tuple l o vs n _ as₁ h1 h2 h3 h4 =>
    cases rb with
    | @tuple l' o' vs' n' _ bs₁ k1 k2 k3 k4 =>
      have n1 : vs.size = xs.length := by simpa using ReadsAll.length _ _ _ h4
      have n2 : vs'.size = ys.length := by simpa using ReadsAll.length _ _ _ k4
      rw [dataLt_tuple, ← firstLt_toks xs ys hal, ← n1, ← n2] at hq
      rw [oneLt'_eq]
      simp only [if_true]
      refine wpAny_bind (wpAny_cRoomFor (room_here hu) ?_)
      refine wpAny_bind (wpAny_callSpecialIfBound?_slot (T := "tuple") ⟨_, h1, h2⟩ F.slot_tuple_lt (call_tuple_lt (e := pairEq xs ys) (r := fun j => dataLt (xs.getD j .none) (ys.getD j .none)) ⟨_, h1, h2, _, h3⟩ ⟨_, k1, k2, _, k3⟩ (fun j j1 j2 => ?_) (fun j j1 j2 hj => ?_) ?_))
      · have := eqAt_alikeAll xs ys A.in1 s vs.toList vs'.toList _ _ h4 k4 hal (room_in hu) j (by simpa using j1) (by simpa using j2)
        simpa using this
      · have := rcLt_alikeAll xs ys A.in1 s vs.toList vs'.toList _ _ h4 k4 hal (room_in hu) j (by simpa using j1) (by simpa using j2) hj
        simpa using this
      · exact wpAny_truthy_bool hq
/-- all are tuples, the first is empty -/
def Sort0 (ds : List PyData) : Prop := (∀ d, d ∈ ds → ∃ xs, d = .tuple xs) ∧ ds.head? = some (.tuple [])
theorem firsts_any {M : Model} : ∀ {vs : List Value} {ds : List PyData} {Q : List (Option Value) → Shared → Prop}, EachIs (fun v d => ∃ as, Reads s.heap v d as) vs ds → (∀ d, d ∈ ds → ∃ xs, d = .tuple xs) → (∀ fs, (∀ r, ds = .tuple [] :: r → ∃ t, fs = none :: t) → Q fs s) → wpAny M A (vs.mapM firstOfTuple') Q E s
  | _, _, Q, .nil, _, h => by
    rw [List.mapM_nil]; exact wpAny_pure (h [] fun r e => by cases e)
  | _, _, Q, .cons (b := d) (as := vs) ⟨as, r⟩ t, hd, h => by
    rw [List.mapM_cons]
    obtain ⟨xs, rfl⟩ := hd d (List.mem_cons_self ..)
    cases r with
    | @tuple a o ys n _ _ ho hc hdt hr =>
      rw [kas_first_eq]
      refine wpAny_bind (wpAny_bind ((looks_reads (M := M) (.tuple ho hc hdt hr)).here ?_))
      rw [if_neg (by show ¬ ((Value.type "tuple" != Value.type "tuple") = true); decide)]
      refine wpAny_bind (listItems_at ho hdt (wpAny_pure ?_))
      refine wpAny_bind (firsts_any t (fun d hm => hd d (List.mem_cons_of_mem _ hm)) fun fs _ => wpAny_pure (h _ fun r e => ?_))
      cases e
      have : ys.toList = [] := by
        cases q : ys.toList with
        | nil => rfl
        | cons z zs => rw [q] at hr; cases hr
      exact ⟨fs, by rw [← Array.getElem?_toList, this]; rfl⟩
theorem SortsAt.data0 {vs : List Value} {ds : List PyData} (e : EachIs (fun v d => ∃ as, Reads s.heap v d as) vs ds) (hal : AllAlike ds) (hk : Sortable ds ∨ Sort0 ds) (hu : ∀ d, d ∈ ds → A.units + d.depth < cLine) : SortsAt prog w A s (dataKind s.heap ds) vs := by
  rcases hk with hk | ⟨ht, h0⟩
  · exact SortsAt.data e hal hk hu
  · refine ⟨fun v hv => ?_, oneType', ?_, fun h2 E Q hq => ?_⟩
    · obtain ⟨d, hd, as, r⟩ := e.left v hv
      exact ⟨_, dataKind_some hal hd r⟩
    · intro E x y a b Q ha hb hq
      obtain ⟨d, as, hd, ra, rfl⟩ := dataKind_inv ha
      obtain ⟨d', as', hd', rb, rfl⟩ := dataKind_inv hb
      rw [keyLt'_oneType]
      have hdd := hal d hd d' hd'
      have hroom : A.units + min d.depth d'.depth < cLine := Nat.lt_of_le_of_lt (Nat.add_le_add_left (Nat.min_le_left _ _) _) (hu d hd)
      obtain ⟨xs, rfl⟩ := ht d hd
      obtain ⟨ys, rfl⟩ := ht d' hd'
      exact oneLt_tup ra rb hdd hroom hq
    · cases e with
      | nil => simp at h2
      | @cons v d vs' ds' r t =>
        cases h0
        rw [keyKind'_eq, List.mapM_toArray, map_eq_pure_bind]
        refine wpAny_bind (wpAny_bind (firsts_any (.cons r t) ht fun fs hf => wpAny_pure ?_))
        obtain ⟨t', rfl⟩ := hf _ rfl
        rw [if_neg (by simp), if_neg (by simp)]
        rw [oneTypeOnly'_eq, List.mapM_toArray, map_eq_pure_bind]
        have hT : ∀ u ∈ v :: vs', Looks (model prog w) s.heap (typeOf u) (Value.type "tuple") := fun u hu' => by
          obtain ⟨d, hd, as, r⟩ := EachIs.left (EachIs.cons r t) u hu'
          obtain ⟨xs, rfl⟩ := ht d hd
          exact looks_reads r
        refine wpAny_bind (wpAny_bind (wpAny_bind (kas_mapM (r := Value.type "tuple") _ (fun v hv Q' hq => (hT v hv).here hq) (wpAny_pure ?_))))
        have hall : ((List.map (fun _ => Value.type "tuple") (v :: vs')).toArray.all fun x => x == Value.type "tuple") = true := by
          simp only [List.all_toArray, List.all_map, List.all_eq_true]
          intro _ _
          rfl
        have h0 : (List.map (fun _ => Value.type "tuple") (v :: vs')).toArray[0]? = some (Value.type "tuple") := by simp
        rw [h0]
        simp only [hall, if_true]
        exact wpAny_pure (wpAny_pure hq)
theorem sorted_dat {l : Addr} {vs : List Value} {ds : List PyData} {R : Value → PyData → Prop} {P : Value → Shared → Prop} (hL : ds.length ≤ sizeLine)
    (hcol : ∀ (B : Around) (E' : Value → Shared → Prop) (R : List Value → Shared → Prop), R vs { s with heap := (s.heap.push (seqObj "list" #[] 0)).update s.heap.objs.size (Obj.mapSeq (· ++ vs.toArray)) } → wpAny (model prog w) B (collect (.ref l)) R E' s)
    (e : EachIs R vs ds) (er : EachIs (fun v d => ∃ as, Reads s.heap v d as) vs ds) (hal : AllAlike ds) (hk : Sortable ds ∨ Sort0 ds) (hu : ∀ d, d ∈ ds → A.units + 2 + d.depth < cLine)
    (h : ∀ out, out.length = ds.length → EachIs R out (ds.mergeSort (dataLe false id)) → P (.ref (s.heap.objs.size + 1)) { s with heap := sortedAll s.heap vs (List.toArray out) }) :
    wpAny (model prog w) A (call (.builtin "sorted") [.ref l]) P E s := by
  have hl : vs.length = ds.length := e.length
  have er2 : EachIs (fun v d => ∃ as, Reads (sortingHeap (copyHeap s.heap vs) (s.heap.objs.size + 1) vs) v d as) vs ds := er.mono fun _ _ ⟨as, r⟩ => ⟨as, PyProof.Rows.Reads.keeps (fun _ _ => sorting_copy_old) r⟩
  have S := SortsAt.data0 (prog := prog) (w := w) (A := A.in1.in1) (s := { s with heap := sortingHeap (copyHeap s.heap vs) (s.heap.objs.size + 1) vs }) er2 hal hk hu
  have mid : ds.map id = ds := List.map_id ds
  refine sorted_by (by rw [hl]; exact hL) hcol fun _ => list_sort_vals (s := { s with heap := copyHeap s.heap vs }) (copyHeap_at s.heap vs) S (by rw [hl]; exact hL) ⟨rfl, ?_⟩
  have key := sortVals_data (h' := sortingHeap (copyHeap s.heap vs) (s.heap.objs.size + 1) vs) (enc := id) (R := R) false e er2 (by rw [mid]; exact hal)
  rw [mid] at key
  exact h _ (by rw [sortVals_length false rfl]; exact hl) key
end
end Cp
/-! Cp4: calls of built-in functions. -/
namespace Cp
open PySem L2
section
variable {X : Cx} {C : Cn} {Q : VK} {μ : List Addr} {F H : Hp} {st : Sto} {e a b c : Expr} {m ma mb mc : Ev} {pos p : Pos} {es : List Expr} {mas : En → Sto → Res (List Vl)} {x : Str} {id T : String}

def CallOk (C : Cn) (r : List V → Hp → VK → Prop) (g : Sto → List Vl → Option Rv) : Prop :=
  ∀ (xs : List Vl) (res : Rv) (vs : List V) (μ : List Addr) (F H : Hp) (st : Sto) (Q : VK), SR C.K μ F H st → VokAll C.K F μ xs vs → g st xs = some res → PostE C Q μ F H (.ok res st) → r vs H Q
def mCal (g : Sto → List Vl → Option Rv) (ma : En → Sto → Res (List Vl)) : Ev := fun ρ st => (ma ρ st).bind fun xs s => match g s xs with
  | some r => .ok r s
  | none => .no
theorem s_args {r : List V → Hp → VK → Prop} {g : Sto → List Vl → Option Rv} (h : PE X e (tCB r (tAs C mas))) (ok : CallOk C r g) : PE X e (tM C (mCal g mas)) :=
  h.imp fun σ H Q ⟨ρ, st, μ, F, h1, h2, h3⟩ => ⟨ρ, st, μ, F, h1, h2, Post.bindA gE_lat h3 fun x s v μ1 F1 H1 x1 r1 k1 h4 => by
    cases q : g s x with
    | none => simp only [q] at h4; exact False.elim h4
    | some res => simp only [q] at h4; exact ok x res v μ1 F1 H1 s _ r1 k1 q h4⟩
theorem s_callB {r : List V → Hp → VK → Prop} {g : Sto → List Vl → Option Rv} (hc : CallR X (.builtin id) r) (ok : CallOk C r g) (hg : Gl X x) (hm : X.mg x = none) (hv : bootBuiltins x = some (.builtin id)) (ha : PA X (e :: es) (tAs C mas)) (hn : x ≠ "__name__" := by decide) (hdb : (x == ("__debug__" : Str)) = false := by decide)
    (he : starEach (e :: es) X.env = (false, eval e X.env) :: starEach es X.env := by rfl) (hpl : (backTo pos (starEach es X.env)).any (·.1) = false := by rfl) : PE X (.Call (.Name x p) (e :: es) [] pos) (tM C (mCal g mas)) := s_args (pe_callB hc hg hm hv ha hn hdb he hpl) ok
theorem s_callTy {r : List V → Hp → VK → Prop} {g : Sto → List Vl → Option Rv} (hc : CallR X (.type T) r) (ok : CallOk C r g) (hg : Gl X x) (hm : X.mg x = none) (hv : bootBuiltins x = some (.type T)) (ha : PA X (e :: es) (tAs C mas)) (hn : x ≠ "__name__" := by decide) (hdb : (x == ("__debug__" : Str)) = false := by decide)
    (he : starEach (e :: es) X.env = (false, eval e X.env) :: starEach es X.env := by rfl) (hpl : (backTo pos (starEach es X.env)).any (·.1) = false := by rfl) : PE X (.Call (.Name x p) (e :: es) [] pos) (tM C (mCal g mas)) := s_args (pe_callTy hc hg hm hv ha hn hdb he hpl) ok
theorem VokAll.one {K : Kw} {y : Vl} {vs : List V} (h : VokAll K F μ [y] vs) : ∃ v, vs = [v] ∧ Vok K F μ y v := by cases h with | cons h r => cases r; exact ⟨_, rfl, h⟩
theorem VokAll.two {K : Kw} {y z : Vl} {vs : List V} (h : VokAll K F μ [y, z] vs) : ∃ v u, vs = [v, u] ∧ Vok K F μ y v ∧ Vok K F μ z u := by
  cases h with
  | cons h r =>
    cases r with
    | cons h2 r => cases r; exact ⟨_, _, rfl, h, h2⟩
/-- a function of one value's content -/
def g1 (f : PyData → Option Rv) : Sto → List Vl → Option Rv
  | s, [y] => match view s y with
    | some d => f d
    | none => none
  | _, _ => none
theorem g1_ok {r : List V → Hp → VK → Prop} {f : PyData → Option Rv}
    (h : ∀ (d : PyData) (res : Rv) (v : V) (μ : List Addr) (F H : Hp) (st : Sto) (Q : VK), SR C.K μ F H st → Vw C.K F H v d → f d = some res → PostE C Q μ F H (.ok res st) → r [v] H Q) : CallOk C r (g1 f) := by
  intro xs res vs μ F H st Q s k e p
  unfold g1 at e
  split at e
  · obtain ⟨v, rfl, hv⟩ := k.one
    split at e
    · rename_i hq
      exact h _ res v μ F H _ Q s (view_ok s hv hq) e p
    · cases e
  · cases e
/-- .. of two ints -/
def gII (f : Int → Int → Int) : Sto → List Vl → Option Rv
  | _, [.d (.int i), .d (.int j)] => some (.d (.int (f i j)))
  | _, _ => none
theorem gII_ok {r : List V → Hp → VK → Prop} {f : Int → Int → Int} (h : ∀ (i j : Int) (H : Hp) (Q : VK), Q (.int (f i j)) H → r [.int i, .int j] H Q) : CallOk C r (gII f) := by
  intro xs res vs μ F H st Q s k e p
  unfold gII at e
  split at e
  · obtain ⟨v, u, rfl, hv, hu⟩ := k.two
    cases e
    cases (show Dq C.K F v (.int _) from hv)
    cases (show Dq C.K F u (.int _) from hu)
    exact h _ _ H Q (fin_d s p (.int _))
  · cases e
def fAbs : PyData → Option Rv
  | .int i => some (.d (.int (if i < 0 then -i else i)))
  | _ => none
theorem c_abs : CallR X (.builtin "abs") (fun xs H Q => ∃ i, xs = [.int i] ∧ Q (.int (if i < 0 then -i else i)) H) ∧ CallOk C (fun xs H Q => ∃ i, xs = [.int i] ∧ Q (.int (if i < 0 then -i else i)) H) (g1 fAbs) :=
  ⟨call_abs, g1_ok fun d res v μ F H st Q s w e p => by
    cases d with
    | int i => cases e; exact ⟨i, by rw [w.int], fin_d s p (.int _)⟩
    | _ => cases e⟩
/-- len -/
def fLen : PyData → Option Rv
  | .str y => if y.length ≤ sizeLine then some (.d (.int y.length)) else none
  | .list xs => some (.d (.int xs.length))
  | .tuple xs => some (.d (.int xs.length))
  | _ => none
def gLen : Sto → List Vl → Option Rv
  | _, [.s ns] => some (.d (.int ns.length))
  | s, xs => g1 fLen s xs
theorem gLen_ok (hK : C.K = X.K) : CallOk C (fun xs H Q => ∃ x n, xs = [x] ∧ LenV X.K x H n ∧ Q (.int n) H) gLen := by
  intro xs res vs μ F H st Q s k e p
  unfold gLen at e
  split at e
  · obtain ⟨v, rfl, q, rfl, hq⟩ := k.one
    cases e
    exact ⟨_, _, rfl, .inl ⟨_, hK ▸ s.sub.seq hq, by rw [List.length_map]⟩, fin_d s p (.int _)⟩
  · refine g1_ok (C := C) (r := fun xs H Q => ∃ x n, xs = [x] ∧ LenV X.K x H n ∧ Q (.int n) H) (fun d res v μ F H st Q s w e p => ?_) xs res vs μ F H _ Q s k e p
    cases d with
    | str y =>
      simp only [fLen] at e
      split at e
      · cases e; exact ⟨_, _, rfl, by rw [w.str]; exact ⟨by assumption, rfl⟩, fin_d s p (.int _)⟩
      · cases e
    | list ys =>
      cases e
      obtain ⟨q, zs, rfl, q1, q2⟩ := w
      exact ⟨_, _, rfl, .inl ⟨zs, SqL.of q1, q2.length.symm⟩, fin_d s p (.int _)⟩
    | tuple ys =>
      cases e
      obtain ⟨q, zs, rfl, q1, q2⟩ := w.tup
      exact ⟨_, _, rfl, .inr ⟨zs, SqT.of (s.sub _ _ q1), q2.length.symm⟩, fin_d s p (.int _)⟩
    | _ => cases e
/-- int of an int, a bool -/
def fInt : PyData → Option Rv
  | .int i => some (.d (.int i))
  | .bool k => some (.d (.int (if k then 1 else 0)))
  | _ => none
theorem fInt_ok : CallOk C (fun xs H Q => (∃ i, xs = [.int i] ∧ Q (.int i) H) ∨ ∃ k, xs = [.bl k] ∧ Q (.int (if k then 1 else 0)) H) (g1 fInt) := g1_ok fun d res v μ F H st Q s w e p => by
  cases d with
  | int i => cases e; exact .inl ⟨i, by rw [w.int], fin_d s p (.int _)⟩
  | bool i => cases e; exact .inr ⟨i, by rw [w.bl], fin_d s p (.int _)⟩
  | _ => cases e
/-- str of an int -/
def fStr : PyData → Option Rv
  | .int i => if i.natAbs.log2 < 1920 then some (.d (.str (toString i))) else none
  | _ => none
theorem fStr_ok : CallOk C (fun xs H Q => ∃ i, xs = [.int i] ∧ i.natAbs.log2 < 1920 ∧ Q (.str (toString i)) H) (g1 fStr) := g1_ok fun d res v μ F H st Q s w e p => by
  cases d with
  | int i =>
    simp only [fStr] at e
    split at e
    · cases e; exact ⟨i, by rw [w.int], by assumption, fin_d s p (.str _)⟩
    · cases e
  | _ => cases e
/-- lists of ints, of bools -/
def intsD : List PyData → Option (List Int)
  | [] => some []
  | .int i :: r => (intsD r).map (i :: ·)
  | _ :: _ => none
def boolsD : List PyData → Option (List Bool)
  | [] => some []
  | .bool i :: r => (boolsD r).map (i :: ·)
  | _ :: _ => none
theorem intsD_ok {K : Kw} : ∀ {vs : List V} {ds : List PyData} {ns : List Int}, DqAll K F vs ds → intsD ds = some ns → vs = ns.map V.int
  | _, _, _, .nil, e => by cases e; rfl
  | _, d :: ds, _, .cons h r, e => by
    cases d with
    | int i =>
      obtain ⟨ms, hm, rfl⟩ := Option.map_eq_some_iff.mp (show (intsD ds).map (i :: ·) = _ from e)
      cases h
      rw [intsD_ok r hm]; rfl
    | _ => cases e
theorem boolsD_ok {K : Kw} : ∀ {vs : List V} {ds : List PyData} {ns : List Bool}, DqAll K F vs ds → boolsD ds = some ns → vs = ns.map V.bl
  | _, _, _, .nil, e => by cases e; rfl
  | _, d :: ds, _, .cons h r, e => by
    cases d with
    | bool i =>
      obtain ⟨ms, hm, rfl⟩ := Option.map_eq_some_iff.mp (show (boolsD ds).map (i :: ·) = _ from e)
      cases h
      rw [boolsD_ok r hm]; rfl
    | _ => cases e
theorem intsD_map (ns : List Int) : intsD (ns.map PyData.int) = some ns := by
  induction ns with
  | nil => rfl
  | cons n ns ih => show (intsD (ns.map PyData.int)).map (n :: ·) = _; rw [ih]; rfl
theorem boolsD_map (ns : List Bool) : boolsD (ns.map PyData.bool) = some ns := by
  induction ns with
  | nil => rfl
  | cons n ns ih => show (boolsD (ns.map PyData.bool)).map (n :: ·) = _; rw [ih]; rfl
def fSum : PyData → Option Rv
  | .list xs => (intsD xs).map fun ns => .d (.int ns.sum)
  | _ => none
def fAll : PyData → Option Rv
  | .list xs => (boolsD xs).map fun ns => .d (.bool (ns.all fun b => b))
  | _ => none
def fAny : PyData → Option Rv
  | .list xs => (boolsD xs).map fun ns => .d (.bool (ns.any fun b => b))
  | _ => none
theorem fSum_ok {K : PySem.W.Frag} : CallOk C (rSum K) (g1 fSum) := g1_ok fun d res v μ F H st Q s w e p => by
  cases d with
  | list ys =>
    obtain ⟨ns, hn, rfl⟩ := Option.map_eq_some_iff.mp (show (intsD ys).map _ = _ from e)
    obtain ⟨q, zs, rfl, q1, q2⟩ := w
    exact ⟨q, ns, rfl, SqL.of (by rw [← intsD_ok q2 hn]; exact q1), fin_d s p (.int _)⟩
  | _ => cases e
theorem fAll_ok {K : PySem.W.Frag} : CallOk C (rAll K) (g1 fAll) := g1_ok fun d res v μ F H st Q s w e p => by
  cases d with
  | list ys =>
    obtain ⟨ns, hn, rfl⟩ := Option.map_eq_some_iff.mp (show (boolsD ys).map _ = _ from e)
    obtain ⟨q, zs, rfl, q1, q2⟩ := w
    exact ⟨q, ns, rfl, SqL.of (by rw [← boolsD_ok q2 hn]; exact q1), fin_d s p (.bl _)⟩
  | _ => cases e
theorem fAny_ok {K : PySem.W.Frag} : CallOk C (rAny K) (g1 fAny) := g1_ok fun d res v μ F H st Q s w e p => by
  cases d with
  | list ys =>
    obtain ⟨ns, hn, rfl⟩ := Option.map_eq_some_iff.mp (show (boolsD ys).map _ = _ from e)
    obtain ⟨q, zs, rfl, q1, q2⟩ := w
    exact ⟨q, ns, rfl, SqL.of (by rw [← boolsD_ok q2 hn]; exact q1), fin_d s p (.bl _)⟩
  | _ => cases e
/-- list, tuple of a list or a tuple -/
def fList : PyData → Option Rv
  | .list xs => some (.n (.l xs))
  | .tuple xs => some (.n (.l xs))
  | _ => none
def fTuple : PyData → Option Rv
  | .list xs => some (.d (.tuple xs))
  | .tuple xs => some (.d (.tuple xs))
  | _ => none
theorem fList_ok {K : PySem.W.Frag} : CallOk C (fun xs H Q => ∃ p ys, xs = [.ref p] ∧ (SqL K H p ys ∨ SqT K H p ys) ∧ ∀ l, H l = none → Q (.ref l) (upd H l (.lst ys))) (g1 fList) := g1_ok fun d res v μ F H st Q s w e p => by
  cases d with
  | list ys => cases e; obtain ⟨q, zs, rfl, q1, q2⟩ := w; exact ⟨q, zs, rfl, .inl (SqL.of q1), fun l hl => fin_n s p hl ⟨_, rfl, q2⟩⟩
  | tuple ys => cases e; obtain ⟨q, zs, rfl, q1, q2⟩ := w.tup; exact ⟨q, zs, rfl, .inr (SqT.of (s.sub _ _ q1)), fun l hl => fin_n s p hl ⟨_, rfl, q2⟩⟩
  | _ => cases e
theorem fTuple_ok {K : PySem.W.Frag} : CallOk C (fun xs H Q => ∃ p ys, xs = [.ref p] ∧ ((SqL K H p ys ∧ ∀ l, H l = none → Q (.ref l) (upd H l (.tup ys))) ∨ (SqT K H p ys ∧ Q (.ref p) H))) (g1 fTuple) := g1_ok fun d res v μ F H st Q s w e p => by
  cases d with
  | list ys => cases e; obtain ⟨q, zs, rfl, q1, q2⟩ := w; exact ⟨q, zs, rfl, .inl ⟨SqL.of q1, fun l hl => fin_t s p hl q2⟩⟩
  | tuple ys => cases e; obtain ⟨q, zs, rfl, q1, q2⟩ := w.tup; exact ⟨q, zs, rfl, .inr ⟨SqT.of (s.sub _ _ q1), fin_d s p (.tup q1 q2)⟩⟩
  | _ => cases e
end

/-! ### sorted -/
section
open PySem.W PyProof.Rows
/-- data that can be ordered -/
def Srt (ds : List PyData) : Prop := AllAlike ds ∧ (Sortable ds ∨ Sort0 ds) ∧ ∀ d, d ∈ ds → d.depth ≤ 60
open Classical in
noncomputable def fSorted (a : PyData) : Option Rv := match itemsD a with
  | some ds => if Srt ds then some (.n (.l (ds.mergeSort (dataLe false fun d => d)))) else none
  | none => none
def rSrtD : List V → Hp → VK → Prop := fun vs H Q => ∃ (K : Kw) (F : Hp) (a : Addr) (xs : List V) (ds : List PyData), vs = [V.ref a] ∧ (H a = some (.lst xs) ∨ H a = some (.tup xs)) ∧ Same F H ∧ DqAll K F xs ds ∧ Srt ds ∧
  ∀ ys p, DqAll K F ys (ds.mergeSort (dataLe false fun d => d)) → H p = none → Q (.ref p) (upd H p (.lst ys))
variable {X : Cx} {C : Cn}
mutual
theorem alike_noDict : ∀ d : PyData, alike d d = true → d.hasDict = false
  | .none, _ => rfl
  | .bool _, _ => rfl
  | .int _, _ => rfl
  | .str _, _ => rfl
  | .list xs, h => alike_noDicts xs (by simpa [alike] using h)
  | .tuple xs, h => alike_noDicts xs (by simpa [alike] using h)
  | .dict _, h => by simp [alike] at h
theorem alike_noDicts : ∀ xs : List PyData, alikeAll xs xs = true → PyData.hasDictAll xs = false
  | [], _ => rfl
  | x :: xs, h => by
    rw [alikeAll, Bool.and_eq_true] at h
    show (x.hasDict || PyData.hasDictAll xs) = false
    rw [alike_noDict x h.1, alike_noDicts xs h.2]; rfl
end
theorem EachIs.memd {R : Value → PyData → Prop} : ∀ {us : List Value} {ds : List PyData}, EachIs R us ds → EachIs (fun v d => R v d ∧ d ∈ ds) us ds
  | _, _, .nil => .nil
  | _, _, .cons h t => .cons ⟨h, List.mem_cons_self ..⟩ ((EachIs.memd t).mono fun _ _ ⟨a, b⟩ => ⟨a, List.mem_cons_of_mem _ b⟩)
theorem each_dq {K : Kw} {F : Hp} : ∀ {xs : List V} {us : List Value} {ds : List PyData}, DqAll K F xs ds → Vals xs us → EachIs (fun v d => ∃ x, RelV x v ∧ Dq K F x d) us ds
  | _, _, _, .nil, r => by cases r; exact .nil
  | _, _, _, .cons h q, r => by
    cases r with
    | cons r1 r2 => exact .cons ⟨_, r1, h⟩ (each_dq q r2)
theorem of_each {K : Kw} {F : Hp} : ∀ {us : List Value} {ds : List PyData}, EachIs (fun v d => ∃ x, RelV x v ∧ Dq K F x d) us ds → ∃ ys, Vals ys us ∧ DqAll K F ys ds
  | _, _, .nil => ⟨[], .nil, .nil⟩
  | _, _, .cons ⟨x, h1, h2⟩ t => by
    obtain ⟨ys, k1, k2⟩ := of_each t
    exact ⟨x :: ys, .cons h1 k1, .cons h2 k2⟩
theorem cr_srt (hu : X.A.units + 64 < cLine) : CallR X (.builtin "sorted") rSrtD := by
  intro pins s σ H vs us Q I r h
  obtain ⟨K, F, a, xs, ds, rfl, ha, sm, hd, ⟨s1, s2, s3⟩, q⟩ := h
  rw [Vals.ref1 r]
  obtain ⟨its, rv, hz, col⟩ : ∃ its : List Value, Vals xs its ∧ xs.length ≤ sizeLine ∧ ∀ (B : Around) (E' : Value → Shared → Prop) (R : List Value → Shared → Prop), R its { s with heap := (s.heap.push (seqObj "list" #[] 0)).update s.heap.objs.size (Obj.mapSeq (· ++ its.toArray)) } → wpAny (model X.prog X.w) B (collect (.ref a)) R E' s := by
    rcases ha with ha | ha
    · obtain ⟨its, rv, hl, hz⟩ := I.list (SqL.of ha)
      exact ⟨its, rv, hz, fun B E' R hr => collect_list hl.isList hr (by rw [← rv.length]; exact hz)⟩
    · obtain ⟨its, rv, hl, hz⟩ := I.tuple (SqT.of ha)
      exact ⟨its, rv, hz, fun B E' R hr => collect_tup hl (by rw [← rv.length]; exact hz) hr⟩
  have hlen : its.length = ds.length := by rw [← rv.length, hd.length]
  have er : EachIs (fun v d => ∃ as, Reads s.heap v d as) its ds := (EachIs.memd (each_dq hd rv)).mono fun v d ⟨⟨x, h1, h2⟩, hm⟩ => (h2.same sm).reads I h1 (alike_noDict d (s1 d hm d hm))
  refine sorted_dat (R := fun v d => ∃ x, RelV x v ∧ Dq K F x d) (by rw [← hd.length]; exact hz) col (each_dq hd rv) er s1 s2 (fun d hm => by have := s3 d hm; omega) fun out ho eo => ?_
  obtain ⟨ys, k1, k2⟩ := of_each eo
  obtain ⟨ep, he⟩ := sortedAll_at s.heap its (List.toArray out)
  refine ⟨.ref _, upd H (s.heap.objs.size + 1) (.lst ys), I.laid (t' := s.toks) (fun _ _ => sortedAll_old) (Nat.le_succ _) ⟨?_, out, ep, k1, he⟩, rfl, q ys _ k2 (I.hok.fresh (Nat.le_succ _))⟩
  rw [k1.length, ho, ← hd.length]; exact hz
theorem fSorted_ok : CallOk C rSrtD (g1 fSorted) := g1_ok fun d res v μ F H st Q s w e p => by
  unfold fSorted at e
  cases d with
  | list ys =>
    simp only [itemsD] at e
    split at e
    · cases e
      obtain ⟨q, zs, rfl, q1, q2⟩ := w
      exact ⟨C.K, F, q, zs, ys, rfl, .inl q1, s.sub, q2, by assumption, fun ws l k hl => fin_n s p hl ⟨_, rfl, k⟩⟩
    · cases e
  | tuple ys =>
    simp only [itemsD] at e
    split at e
    · cases e
      obtain ⟨q, zs, rfl, q1, q2⟩ := w.tup
      exact ⟨C.K, F, q, zs, ys, rfl, .inr (s.sub _ _ q1), s.sub, q2, by assumption, fun ws l k hl => fin_n s p hl ⟨_, rfl, k⟩⟩
    · cases e
  | _ => cases e
end

/-! ### repr -/
section
mutual
def noLst : PyData → Bool
  | .list xs => noLstA xs
  | .tuple xs => noLstA xs
  | .dict kvs => flK kvs && noLstK kvs
  | _ => true
def noLstA : List PyData → Bool
  | [] => true
  | x :: xs => noLst x && noLstA xs
def noLstK : List (PyData × PyData) → Bool
  | [] => true
  | (_, x) :: xs => noLst x && noLstK xs
end
variable {X : Cx} {C : Cn} {pins : List (Addr × Obj)} {σ : St} {H F : Hp} {s : Shared} {K : Kw}
/-- the table of modules is a dict -/
def SysK (K : PySem.W.Frag) : Prop := ∃ o es n, K.lookup sysModules = some o ∧ o.data = .dict es n
mutual
theorem Dq.sys (hS : SysK X.K) (I : Inv X pins σ H s) : ∀ {v : V} {d : PyData} {u : Value}, Dq K H v d → RelV v u → noLst d = true → ∃ as, Reads s.heap u d as ∧ sysModules ∉ as
  | _, _, _, .non, r, _ => by cases r; exact ⟨_, .none, by simp⟩
  | _, _, _, .bl b, r, _ => by cases r; exact ⟨_, .bool b, by simp⟩
  | _, _, _, .int i, r, _ => by obtain ⟨t, rfl⟩ := r; exact ⟨_, .int i t, by simp⟩
  | _, _, _, .str x, r, _ => by obtain ⟨t, rfl⟩ := r; exact ⟨_, .str x t, by simp⟩
  | _, _, _, .lst (a := a) h q, r, n => by
    cases r
    obtain ⟨its, rv, ⟨o, k, ho, hc, _, hd⟩, _⟩ := I.list (SqL.of h)
    obtain ⟨as, hr, hs⟩ := DqAll.sys hS I q rv (by simpa [noLst] using n)
    refine ⟨_, .list ho hc hd hr, ?_⟩
    rw [List.mem_cons, not_or]
    refine ⟨fun e => ?_, hs⟩
    subst e
    obtain ⟨o', es, m, g1, g2⟩ := hS
    rw [I.kIn _ _ g1] at ho
    cases ho
    rw [g2] at hd; cases hd
  | _, _, _, .tup h q, r, n => by
    cases r
    obtain ⟨its, rv, ⟨o, ho, hc, n', hd⟩, _⟩ := I.tuple (SqT.of h)
    obtain ⟨as, hr, hs⟩ := DqAll.sys hS I q rv (by simpa [noLst] using n)
    exact ⟨_, .tuple ho hc hd hr, hs⟩
  | _, _, _, .dic h q, r, n => by
    cases r
    obtain ⟨_, na, vs, kv, hd⟩ := I.hok _ _ h
    have n' : (flK _ && noLstK _) = true := n
    rw [Bool.and_eq_true] at n'
    obtain ⟨bs, p, hs⟩ := DqKv.sys hS I q kv n'.2
    refine ⟨_, PyProof.V.reads_dictOf (fun k v e => key_reads k v e) hd p, ?_⟩
    rw [List.mem_cons, not_or]
    exact ⟨fun e => by rw [← e] at na; simp at na, hs⟩
  | _, _, _, .dig h q _ z, r, n => by
    have n' : (flK _ && noLstK _) = true := n
    rw [Bool.and_eq_true] at n'
    cases q with
    | nil => exact absurd rfl z
    | cons g _ _ _ _ =>
      have f := n'.1
      unfold flK at f
      rw [List.all_cons, Bool.and_eq_true] at f
      cases g <;> exact absurd f.1 Bool.false_ne_true
  | _, _, _, .ins _ _ _, _, n => by cases n
theorem DqAll.sys (hS : SysK X.K) (I : Inv X pins σ H s) : ∀ {vs : List V} {ds : List PyData} {us : List Value}, DqAll K H vs ds → Vals vs us → noLstA ds = true → ∃ as, ReadsAll s.heap us ds as ∧ sysModules ∉ as
  | _, _, _, .nil, r, _ => by cases r; exact ⟨_, .nil, by simp⟩
  | _, _, _, .cons h q, r, n => by
    rw [noLstA, Bool.and_eq_true] at n
    cases r with
    | cons r1 r2 =>
      obtain ⟨as, q1, s1⟩ := Dq.sys hS I h r1 n.1
      obtain ⟨bs, q2, s2⟩ := DqAll.sys hS I q r2 n.2
      exact ⟨_, .cons q1 q2, by rw [List.mem_append, not_or]; exact ⟨s1, s2⟩⟩
theorem DqKv.sys (hS : SysK X.K) (I : Inv X pins σ H s) : ∀ {ws : List (Key × V)} {kvs : List (PyData × PyData)} {us : List (Key × Value)}, DqKv K H ws kvs → KV ws us → noLstK kvs = true → ∃ bs, PyProof.V.PairsRead s.heap kD us kvs bs ∧ sysModules ∉ bs
  | _, _, _, .nil, r, _ => by cases r; exact ⟨_, .nil, by simp⟩
  | _, _, _, .cons h q, r, n => by
    rw [noLstK, Bool.and_eq_true] at n
    cases r with
    | cons r1 r2 =>
      obtain ⟨k', v'⟩ := ‹Key × Value›
      obtain ⟨e, r1⟩ := r1
      cases e
      obtain ⟨as, q1, s1⟩ := Dq.sys hS I h r1 n.1
      obtain ⟨bs, q2, s2⟩ := DqKv.sys hS I q r2 n.2
      exact ⟨_, .cons q1 q2, by rw [List.mem_append, not_or]; exact ⟨s1, s2⟩⟩
end
/-- what can be shown -/
def shw (d : PyData) : Bool := d.showable && (!d.hasDict || noLst d) && decide (d.shown.length ≤ sizeLine) && decide (d.depth ≤ 60)
def fRepr (d : PyData) : Option Rv := if shw d then some (.d (.str d.shown)) else none
def rRepr : List V → Hp → VK → Prop := fun vs H Q => ∃ (K : Kw) (v : V) (d : PyData), vs = [v] ∧ Dq K H v d ∧ shw d = true ∧ Q (.str d.shown) H
theorem cr_repr (hS : SysK X.K) (hu : X.A.units + 64 < cLine) (hg : X.A.guards = some []) : CallR X (.builtin "repr") rRepr := by
  intro pins s σ H vs us Q I r h
  obtain ⟨K, v, d, rfl, hd, hs, q⟩ := h
  obtain ⟨u, rfl, ru⟩ := vals1 r
  unfold shw at hs
  simp only [Bool.and_eq_true, Bool.or_eq_true, decide_eq_true_eq, Bool.not_eq_true'] at hs
  obtain ⟨⟨⟨h1, h2⟩, h3⟩, h4⟩ := hs
  obtain ⟨as, hr, hm⟩ : ∃ as, Reads s.heap u d as ∧ (d.hasDict = true → sysModules ∉ as) := by
    rcases h2 with h2 | h2
    · obtain ⟨as, hr⟩ := hd.reads I ru h2
      exact ⟨as, hr, fun z => by rw [h2] at z; cases z⟩
    · obtain ⟨as, hr, hz⟩ := hd.sys hS I ru h2
      exact ⟨as, hr, fun _ => hz⟩
  have go : ∀ a, u = Value.ref a → wpAny (model X.prog X.w) X.A (call (.builtin "repr") [u]) (EP X pins σ Q) X.xe s := fun a e => by
    subst e
    exact PySem.repr_of_reads' hr h1 hm hg (by omega) (fun _ _ e => e) (fun h' t tk hk => ⟨.str d.shown, H, I.kept hk, ⟨t, rfl⟩, q⟩) h3
  cases hd with
  | non => cases ru; exact PySem.P.repr_of_none ⟨.str "None", H, I.tok _, ⟨_, rfl⟩, by simpa [PyData.shown] using q⟩
  | bl b => cases ru; exact PySem.P.repr_of_bool ⟨.str (if b then "True" else "False"), H, I.tok _, ⟨_, rfl⟩, by simpa [PyData.shown] using q⟩
  | int i =>
    obtain ⟨t, rfl⟩ := ru
    exact PySem.P.repr_of_int (by simpa [PyData.showable] using h1) ⟨.str (toString i), H, I.tok _, ⟨_, rfl⟩, by simpa [PyData.shown] using q⟩
  | str x =>
    obtain ⟨t, rfl⟩ := ru
    exact PySem.P.repr_of_str ⟨.str (reprText x), H, I.tok _, ⟨_, rfl⟩, by simpa [PyData.shown] using q⟩ (by simpa [PyData.shown] using h3)
  | lst _ _ => exact go _ ru
  | tup _ _ => exact go _ ru
  | dic _ _ => exact go _ ru
  | dig _ _ _ _ => exact go _ ru
  | ins _ _ _ => exact go _ ru
theorem fRepr_ok : CallOk C rRepr (g1 fRepr) := g1_ok fun d res v μ F H st Q s w e p => by
  unfold fRepr at e
  split at e
  · cases e; exact ⟨C.K, v, d, rfl, w.dq s.sub, by assumption, fin_d s p (.str _)⟩
  · cases e
end
end Cp
/-! Cp5: statements. -/
namespace Cp
open PySem L2
/-- how a statement ends -/
inductive RS where
  | nx (ρ : En) (s : Sto)
  | bk (ρ : En) (s : Sto)
  | ct (ρ : En) (s : Sto)
  | rt (r : Rv) (s : Sto)
  | er (e : Er) (s : Sto)
  | no
abbrev Sv := En → Sto → RS
def gN (C : Cn) (P : St → Hp → Prop) (ρ : En) (st : Sto) (μ : List Addr) (F H : Hp) : Prop := ∀ σ' μ' F' H', Ext μ F H μ' F' H' → SR C.K μ' F' H' st → Eok C.K F' μ' ρ σ' → P σ' H'
def PostS (C : Cn) (D : Ends) (μ : List Addr) (F H : Hp) : RS → Prop
  | .nx ρ s => gN C D.nx ρ s μ F H
  | .bk ρ s => gN C D.bk ρ s μ F H
  | .ct ρ s => gN C D.ct ρ s μ F H
  | .rt r s => gE C D.rt r s μ F H
  | .er e s => Erw C μ F H e s
  | .no => False
def tS (C : Cn) (m : Sv) : TS := fun D σ H => At C σ H fun ρ st μ F => PostS (C.at σ) D μ F H (m ρ st)
section
variable {X : Cx} {C : Cn} {Q : VK} {μ μ1 : List Addr} {F H F1 H1 : Hp} {st : Sto} {e a b c : Expr} {m ma mb mc : Ev} {pos p : Pos} {es : List Expr} {D : Ends} {s t : Stmt} {ss : List Stmt} {sa sb : Sv}
theorem gN.later {P : St → Hp → Prop} {ρ : En} (x : Ext μ F H μ1 F1 H1) (h : gN C P ρ st μ F H) : gN C P ρ st μ1 F1 H1 := fun σ' μ' F' H' y s k => h σ' μ' F' H' (x.trans y) s k
theorem PostS.later {r : RS} (x : Ext μ F H μ1 F1 H1) (h : PostS C D μ F H r) : PostS C D μ1 F1 H1 r := by
  cases r with
  | nx ρ s => exact gN.later x h
  | bk ρ s => exact gN.later x h
  | ct ρ s => exact gN.later x h
  | rt r s => exact gE_lat.it x h
  | er e s => exact Erw.later x h
  | no => exact h
theorem _root_.L2.PS.imp {t' u : TS} (h : PS X s t') (w : ∀ D σ H, u D σ H → t' D σ H) : PS X s u := ⟨fun pins s σ H D I h' => h.run pins s σ H D I (w D σ H h')⟩
theorem _root_.L2.PSs.imp {t' u : TS} (h : PSs X ss t') (w : ∀ D σ H, u D σ H → t' D σ H) : PSs X ss u := ⟨fun pins s σ H D I h' => h.run pins s σ H D I (w D σ H h')⟩
/-- what a sub-meaning gives, then a statement's rest -/
@[reducible] def Res.toS {α : Type} (r : Res α) (k : α → Sto → RS) : RS := match r with
  | .ok a s => k a s
  | .er e s => .er e s
  | .no => .no
theorem PostS.bindV {m : Res Vl} {k : Vl → Sto → RS} {Q : VK} (h : PostS C D μ F H (m.toS k))
    (hk : ∀ x s v μ1 F1 H1, Ext μ F H μ1 F1 H1 → SR C.K μ1 F1 H1 s → Vok C.K F1 μ1 x v → PostS C D μ1 F1 H1 (k x s) → Q v H1) : PostV C Q μ F H m := by
  cases m with
  | ok x s => exact fun v μ1 F1 H1 e s1 o => hk x s v μ1 F1 H1 e s1 o (PostS.later e h)
  | er e s => exact h
  | no => exact h
theorem PostS.bindE {m : Res Rv} {k : Rv → Sto → RS} {Q : VK} (h : PostS C D μ F H (m.toS k))
    (hk : ∀ x s v μ1 F1 H1, Out C.K μ F H s x v μ1 F1 H1 → PostS C D μ F H (k x s) → Q v H1) : PostE C Q μ F H m := by
  cases m with
  | ok x s => exact fun v μ1 F1 H1 o => hk x s v μ1 F1 H1 o h
  | er e s => exact h
  | no => exact h
theorem PostS.bindB {m : Res Bool} {k : Bool → Sto → RS} {Q : Bool → Hp → Prop} (h : PostS C D μ F H (m.toS k))
    (hk : ∀ x s μ1 F1 H1, Ext μ F H μ1 F1 H1 → SR C.K μ1 F1 H1 s → PostS C D μ1 F1 H1 (k x s) → Q x H1) : PostB C Q μ F H m := by
  cases m with
  | ok x s => exact fun μ1 F1 H1 e s1 => hk x s μ1 F1 H1 e s1 (PostS.later e h)
  | er e s => exact h
  | no => exact h
theorem PostS.bindA {m : Res (List Vl)} {k : List Vl → Sto → RS} {Q : List V → Hp → Prop} (h : PostS C D μ F H (m.toS k))
    (hk : ∀ x s v μ1 F1 H1, Ext μ F H μ1 F1 H1 → SR C.K μ1 F1 H1 s → VokAll C.K F1 μ1 x v → PostS C D μ1 F1 H1 (k x s) → Q v H1) : PostA C Q μ F H m := by
  cases m with
  | ok x s => exact fun v μ1 F1 H1 e s1 o => hk x s v μ1 F1 H1 e s1 o (PostS.later e h)
  | er e s => exact h
  | no => exact h

theorem Erw.flat {σ σ' : St} (fl : C.Flat) {e : Er} {st : Sto} (h : Erw (C.at σ) μ F H e st) : Erw (C.at σ') μ F H e st := fun cls dd μ' F' H' x s o => fl _ _ _ _ _ (h cls dd μ' F' H' x s o)
theorem PostS.flat {σ σ' : St} (fl : C.Flat) {r : RS} (h : PostS (C.at σ) D μ F H r) : PostS (C.at σ') D μ F H r := by
  cases r with
  | er e s => exact Erw.flat fl h
  | nx ρ s => exact h
  | bk ρ s => exact h
  | ct ρ s => exact h
  | rt r s => exact h
  | no => exact h

/-! ### blocks -/
def sNil : Sv := fun ρ st => .nx ρ st
def sSeq (x y : Sv) : Sv := fun ρ st => match x ρ st with
  | .nx ρ' s => y ρ' s
  | r => r
theorem x_nil : PSs X [] (tS C sNil) := pss_nil.imp fun D σ H ⟨ρ, st, μ, F, h1, h2, h3⟩ => h3 σ μ F H Ext.refl h2 h1
theorem x_cons (ha : PS X s (tS C sa)) (hb : PSs X ss (tS C sb)) (fl : C.Flat := by exact fun _ _ _ _ _ h => h) : PSs X (s :: ss) (tS C (sSeq sa sb)) := (pss_cons ha hb).imp fun D σ H ⟨ρ, st, μ, F, h1, h2, h3⟩ => ⟨ρ, st, μ, F, h1, h2, by
  show PostS (C.at σ) { D with nx := tS C sb D } μ F H (sa ρ st)
  simp only [sSeq] at h3
  cases q : sa ρ st with
  | nx ρ' s' =>
    simp only [q] at h3
    exact fun σ' μ' F' H' x r k => ⟨ρ', s', μ', F', k, r, PostS.flat fl (PostS.later x h3)⟩
  | bk ρ' s' => simp only [q] at h3; exact h3
  | ct ρ' s' => simp only [q] at h3; exact h3
  | rt r s' => simp only [q] at h3; exact h3
  | er r s' => simp only [q] at h3; exact h3
  | no => simp only [q] at h3; exact h3⟩
theorem x_one (ha : PS X s (tS C sa)) : PSs X [s] (tS C sa) := pss_one ha
theorem x_no : PSs X ss (tS C fun _ _ => .no) := ⟨fun pins s σ H D I ⟨ρ, st, μ, F, h1, h2, h3⟩ => False.elim h3⟩
theorem x_pass : PS X (.Pass pos) (tS C sNil) := ps_pass.imp fun D σ H ⟨ρ, st, μ, F, h1, h2, h3⟩ => h3 σ μ F H Ext.refl h2 h1
theorem x_break : PS X (.Break pos) (tS C fun ρ st => .bk ρ st) := ps_break.imp fun D σ H ⟨ρ, st, μ, F, h1, h2, h3⟩ => h3 σ μ F H Ext.refl h2 h1
theorem x_continue : PS X (.Continue pos) (tS C fun ρ st => .ct ρ st) := ps_continue.imp fun D σ H ⟨ρ, st, μ, F, h1, h2, h3⟩ => h3 σ μ F H Ext.refl h2 h1
def sExp (m : Ev) : Sv := fun ρ st => (m ρ st).toS fun _ s => .nx ρ s
theorem x_expr (h : PE X e (tM C m)) (hs : swapsWith e none pos.line X.env = pure false := by rfl) : PS X (.Expr e pos) (tS C (sExp m)) := (ps_expr h hs).imp fun D σ H ⟨ρ, st, μ, F, h1, h2, h3⟩ =>
  ⟨ρ, st, μ, F, h1, h2, PostS.bindE h3 fun x s v μ1 F1 H1 o h4 => h4 σ μ1 F1 H1 o.ext o.sr (h1.ext o.ext)⟩
def sRet (m : Ev) : Sv := fun ρ st => (m ρ st).toS fun r s => .rt r s
theorem x_ret (h : PE X e (tM C m)) : PS X (.Return (some e) pos) (tS C (sRet m)) := (ps_ret h).imp fun D σ H ⟨ρ, st, μ, F, h1, h2, h3⟩ => ⟨ρ, st, μ, F, h1, h2, PostS.bindE h3 fun x s v μ1 F1 H1 o h4 => h4 v μ1 F1 H1 o⟩
def sRetN : Sv := fun _ st => .rt (.d .none) st
theorem x_retN : PS X (.Return none pos) (tS C sRetN) := ps_retN.imp fun D σ H ⟨ρ, st, μ, F, h1, h2, h3⟩ => h3 .non μ F H ⟨Ext.refl, h2, .non, fun _ e => nomatch e⟩
def sIf (c : En → Sto → Res Bool) (x y : Sv) : Sv := fun ρ st => (c ρ st).toS fun k s => if k = true then x ρ s else y ρ s
theorem x_if {bc : En → Sto → Res Bool} {A B : List Stmt} (hc : PT X c (tT C bc)) (ha : PSs X A (tS C sa)) (hb : PSs X B (tS C sb)) : PS X (.If c A B pos) (tS C (sIf bc sa sb)) := (ps_if hc ha hb).imp fun D σ H ⟨ρ, st, μ, F, h1, h2, h3⟩ =>
  ⟨ρ, st, μ, F, h1, h2, PostS.bindB h3 fun k s μ1 F1 H1 x r h4 => by
    cases k with
    | true => simp only [if_true] at h4 ⊢; exact ⟨ρ, s, μ1, F1, h1.ext x, r, h4⟩
    | false => simp only [Bool.false_eq_true, if_false] at h4 ⊢; exact ⟨ρ, s, μ1, F1, h1.ext x, r, h4⟩⟩

/-! ### targets: where a value goes; the slots ws alone change -/
def Agr (ws : List Nat) (σ σ' : St) : Prop := σ'.length = σ.length ∧ ∀ j, j ∉ ws → σ'[j]? = σ[j]?
abbrev Gm := Vl → En → Sto → Res En
abbrev gG (C : Cn) (ws : List Nat) (σ : St) (P : St → Hp → Prop) : En → Sto → List Addr → Hp → Hp → Prop := fun ρ st μ F H => ∀ σ' μ' F' H', Ext μ F H μ' F' H' → SR C.K μ' F' H' st → Eok C.K F' μ' ρ σ' → Agr ws σ σ' → P σ' H'
theorem gG_lat {ws : List Nat} {σ : St} {P : St → Hp → Prop} : Lat (gG C ws σ P) := ⟨fun x h σ' μ' F' H' y s k => h σ' μ' F' H' (x.trans y) s k⟩
def tG (C : Cn) (ws : List Nat) (g : Gm) : TG := fun v σ H P => ∃ ρ st μ F x, Eok C.K F μ ρ σ ∧ SR C.K μ F H st ∧ Vok C.K F μ x v ∧ Post (C.at σ) (gG C ws σ P) μ F H (g x ρ st)
theorem _root_.L2.PG.imp {tg : Expr} {t u : TG} (h : PG X tg t) (w : ∀ v σ H Q, u v σ H Q → t v σ H Q) : PG X tg u := ⟨fun pins s σ H v u Q I r h' => h.run pins s σ H v u Q I r (w v σ H Q h')⟩
def gNm (i : Nat) : Gm := fun x ρ st => .ok (ρ.set i (some x)) st
theorem eok_set {K : Kw} {ρ : En} {σ : St} {i : Nat} {x : Vl} {v : V} (h : Eok K F μ ρ σ) (k : Vok K F μ x v) : Eok K F μ (ρ.set i (some x)) (σ.set i (some v)) := by
  refine ⟨by simp [h.1], fun j y e => ?_⟩
  by_cases hj : i = j
  · subst hj
    have hi : i < ρ.length := by
      have := (List.getElem?_eq_some_iff.mp e).1
      simpa using this
    rw [List.getElem?_set_self hi] at e
    cases e
    exact ⟨v, by rw [List.getElem?_set_self (by rw [← h.1]; exact hi)], k⟩
  · rw [List.getElem?_set_ne hj] at e
    obtain ⟨w, h1, h2⟩ := h.2 j y e
    exact ⟨w, by rw [List.getElem?_set_ne hj]; exact h1, h2⟩
theorem agr_set {i : Nat} {σ : St} {v : Option V} : Agr [i] σ (σ.set i v) := ⟨by simp, fun j h => List.getElem?_set_ne (fun e => h (by simp [e]))⟩
theorem t_name {i : Nat} {tg : Expr} (h : PG X tg (gName i)) : PG X tg (tG C [i] (gNm i)) := h.imp fun v σ H Q ⟨ρ, st, μ, F, x, h1, h2, h3, h4⟩ => h4 _ μ F H Ext.refl h2 (eok_set h1 h3) agr_set
/-- several, from a tuple -/
abbrev Gms := List PyData → En → Sto → Res En
def gNil9 : Gms := fun ds ρ st => match ds with
  | [] => .ok ρ st
  | _ :: _ => .no
def gCons9 (g : Gm) (r : Gms) : Gms := fun ds ρ st => match ds with
  | [] => .no
  | d :: ds => (g (.d d) ρ st).bind fun ρ' s => r ds ρ' s
def tGs (C : Cn) (ws : List Nat) (g : Gms) : TGs := fun vs σ H P => ∃ ρ st μ F ds, Eok C.K F μ ρ σ ∧ SR C.K μ F H st ∧ DqAll C.K F vs ds ∧ Post (C.at σ) (gG C ws σ P) μ F H (g ds ρ st)
theorem _root_.L2.PGs.imp {tg : List Expr} {t u : TGs} (h : PGs X tg t) (w : ∀ v σ H Q, u v σ H Q → t v σ H Q) : PGs X tg u := ⟨fun pins s σ H v u Q I r h' => h.run pins s σ H v u Q I r (w v σ H Q h')⟩
theorem t_nil : PGs X [] (tGs C [] gNil9) := pgs_nil.imp fun v σ H Q ⟨ρ, st, μ, F, ds, h1, h2, h3, h4⟩ => by
  cases h3 with
  | nil => exact ⟨rfl, h4 σ μ F H Ext.refl h2 h1 ⟨rfl, fun _ _ => rfl⟩⟩
  | cons _ _ => exact False.elim h4
theorem t_cons {tg : Expr} {tgs : List Expr} {ws ws' : List Nat} {g : Gm} {r : Gms} (h : PG X tg (tG C ws g)) (hr : PGs X tgs (tGs C ws' r)) (hs : (assignEach (tg :: tgs) X.env).map (·.2) = assign tg X.env :: (assignEach tgs X.env).map (·.2) := by rfl) (fl : C.Flat := by exact fun _ _ _ _ _ h => h) :
    PGs X (tg :: tgs) (tGs C (ws ++ ws') (gCons9 g r)) := (pgs_cons h hr hs).imp fun v σ H Q ⟨ρ, st, μ, F, ds, h1, h2, h3, h4⟩ => by
  cases h3 with
  | nil => exact False.elim h4
  | @cons v' vs' d' ds' k kr =>
    refine ⟨_, _, rfl, ρ, st, μ, F, .d d', h1, h2, k, ?_⟩
    have h4 : Post (C.at σ) (gG C (ws ++ ws') σ Q) μ F H ((g (.d d') ρ st).bind fun ρ' s => r ds' ρ' s) := h4
    cases q : g (.d d') ρ st with
    | no => rw [q] at h4; exact h4
    | er e s => rw [q] at h4; exact h4
    | ok ρ1 s1 =>
      rw [q] at h4
      intro σ1 μ1 F1 H1 x1 r1 k1 a1
      refine ⟨ρ1, s1, μ1, F1, ds', k1, r1, kr.same x1.same, ?_⟩
      have h5 := Post.later gG_lat x1 (show Post (C.at σ) (gG C (ws ++ ws') σ Q) μ F H (r ds' ρ1 s1) from h4)
      have wk : ∀ {ρ' s'}, gG C (ws ++ ws') σ Q ρ' s' μ1 F1 H1 → gG C ws' σ1 Q ρ' s' μ1 F1 H1 := fun {ρ' s'} z σ2 μ2 F2 H2 x2 r2 k2 a2 => z σ2 μ2 F2 H2 x2 r2 k2 ⟨a2.1.trans a1.1, fun j hj => by
        rw [List.mem_append, not_or] at hj
        rw [a2.2 j hj.2, a1.2 j hj.1]⟩
      cases q2 : r ds' ρ1 s1 with
      | no => rw [q2] at h5; exact h5
      | er e s => rw [q2] at h5; exact Erw.flat fl h5
      | ok ρ2 s2 => rw [q2] at h5; exact wk h5
def gTp (n : Nat) (r : Gms) : Gm := fun x ρ st => match x with
  | .d (.tuple ds) => if ds.length = n then r ds ρ st else .no
  | _ => .no
theorem t_tup {k : Nat} {ws : List Nat} {r : Gms} {n : Nat} (hc : X.calm = true) (h : PGs X es (tGs C ws r)) (hn : (assignEach es X.env).length = n := by rfl) (hst : (assignEach es X.env).findIdx? (·.1) = none := by rfl) : PG X (.Tuple es k pos) (tG C ws (gTp n r)) :=
  (pg_tup hc h hn hst).imp fun v σ H Q ⟨ρ, st, μ, F, x, h1, h2, h3, h4⟩ => by
    cases x with
    | c i => exact False.elim h4
    | s i => exact False.elim h4
    | o i => exact False.elim h4
    | d x =>
      cases x with
      | tuple ds =>
        cases (show Dq C.K F v (.tuple ds) from h3) with
        | tup q1 q2 =>
          simp only [gTp] at h4
          split at h4
          · rename_i hl
            exact ⟨_, _, rfl, SqT.of (h2.sub _ _ q1), by rw [q2.length]; exact hl, ρ, st, μ, F, ds, h1, h2, q2, h4⟩
          · exact False.elim h4
      | _ => exact False.elim h4
/-- a list's place -/
def gPl (mo mi : Ev) : Gm := fun x ρ st => match x with
  | .d d => (mV mo ρ st).bind fun o s1 => (mV mi ρ s1).bind fun i s2 => match o, i with
    | .c k, .d (.int j) => match s2[k]? with
      | some (.l xs) => match ixN xs.length j with
        | some n => .ok ρ (s2.set k (.l (xs.set n d)))
        | none => .no
      | _ => .no
    | _, _ => .no
  | _ => .no
theorem t_pl {o i : Expr} {mo mi : Ev} (ho : PE X o (tM C mo)) (hi : PE X i (tM C mi))
    (ha : ∀ v, assign (.Subscript o i pos) X.env v = (do
      let ov ← holding [v] (eval o X.env)
      let iv ← holding [v, ov] (eval i X.env)
      standAt pos
      holding [v, ov, iv] (setItem ov iv v)
      release [v, ov, iv] []) := by intro _; rfl) : PG X (.Subscript o i pos) (tG C [] (gPl mo mi)) :=
  (pg_sub (pv_frz ho) (pv_frz hi) set_list ha).imp fun v σ H Q ⟨ρ, st, μ, F, x, h1, h2, h3, h4⟩ => by
    cases x with
    | c i => exact False.elim h4
    | s i => exact False.elim h4
    | o i => exact False.elim h4
    | d d =>
      have h4 : Post (C.at σ) (gG C [] σ Q) μ F H ((mV mo ρ st).bind fun o s1 => (mV mi ρ s1).bind fun i s2 => match o, i with
        | .c k, .d (.int j) => match s2[k]? with
          | some (.l xs) => match ixN xs.length j with
            | some n => .ok ρ (s2.set k (.l (xs.set n d)))
            | none => .no
          | _ => .no
        | _, _ => .no) := h4
      refine ⟨ρ, st, μ, F, h1, h2, Post.bindV gG_lat h4 fun o s1 vo μ1 F1 H1 x1 r1 k1 h5 => ⟨ρ, s1, μ1, F1, h1.ext x1, r1, Post.bindV gG_lat h5 fun i s2 vi μ2 F2 H2 x2 r2 k2 h6 => ?_⟩⟩
      have k1 := k1.ext x2
      cases o with
      | d _ => exact False.elim h6
      | s _ => exact False.elim h6
      | o _ => exact False.elim h6
      | c k =>
        cases i with
        | c _ => exact False.elim h6
        | s _ => exact False.elim h6
        | o _ => exact False.elim h6
        | d i =>
          cases i with
          | int j =>
            cases q : s2[k]? with
            | none => simp only [q] at h6; exact False.elim h6
            | some cl =>
              cases cl with
              | m _ => simp only [q] at h6; exact False.elim h6
              | l xs =>
                cases q2 : ixN xs.length j with
                | none => simp only [q, q2] at h6; exact False.elim h6
                | some n =>
                  simp only [q, q2] at h6
                  obtain ⟨p, hp, rfl⟩ := k1
                  obtain ⟨p', o', g1, g2, ys, rfl, g3⟩ := r2.cell k _ q
                  rw [hp] at g1; cases g1
                  cases (show Dq C.K F2 vi (.int j) from k2)
                  have dv : Dq C.K F2 v d := Dq.same (x1.trans x2).same h3
                  obtain ⟨w1, w2⟩ := r2.write (c := .l (xs.set n d)) (o := .lst (ys.set n v)) hp ⟨_, rfl, g3.set dv n⟩ q
                  exact ⟨p, ys, j, n, rfl, rfl, g2, by rw [g3.length]; exact q2, h6 σ μ2 F2 _ w2 w1 (((h1.ext x1).ext x2).ext w2) ⟨rfl, fun _ _ => rfl⟩⟩
          | _ => exact False.elim h6
/-- target = value -/
def sAsg (g : Gm) (mv : En → Sto → Res Vl) : Sv := fun ρ st => (mv ρ st).toS fun x s => (g x ρ s).toS fun ρ' s' => .nx ρ' s'
theorem x_asg {tg : Expr} {ws : List Nat} {g : Gm} {mv : En → Sto → Res Vl} (he : PE X e (tV C mv)) (hg : PG X tg (tG C ws g)) (hs : swapsWithSole [tg] e pos.line X.env = pure false := by rfl) (hw : swappedStores [tg] e X.env = pure none := by rfl)
    (h1 : (assignEach [tg] X.env).map (·.2) = [assign tg X.env] := by rfl) : PS X (.Assign [tg] e pos) (tS C (sAsg g mv)) := (ps_asg he hg hs hw h1).imp fun D σ H ⟨ρ, st, μ, F, h1, h2, h3⟩ =>
  ⟨ρ, st, μ, F, h1, h2, PostS.bindV h3 fun x s v μ1 F1 H1 x1 r1 k1 h4 => ⟨ρ, s, μ1, F1, x, h1.ext x1, r1, k1, by
    cases q : g x ρ s with
    | no => rw [q] at h4; exact h4
    | er e' s' => rw [q] at h4; exact h4
    | ok ρ' s' => rw [q] at h4; exact fun σ' μ' F' H' y r k _ => h4 σ' μ' F' H' y r k⟩⟩
/-- name = [..] (a comprehension on one line): ps_setLc's form -/
theorem x_asgLc {i : Nat} {t : TE} {mv : En → Sto → Res Vl} (h : PS X s (tAsg t (gName i))) (w : ∀ σ H Q, tV C mv σ H Q → t σ H Q) : PS X s (tS C (sAsg (gNm i) mv)) := h.imp fun D σ H ⟨ρ, st, μ, F, h1, h2, h3⟩ => w σ H _
  ⟨ρ, st, μ, F, h1, h2, PostS.bindV h3 fun x s v μ1 F1 H1 x1 r1 k1 h4 => h4 _ μ1 F1 H1 Ext.refl r1 (eok_set (h1.ext x1) k1)⟩
/-- two, three names at once -/
def sPar (is : List Nat) (ma : En → Sto → Res (List Vl)) : Sv := fun ρ st => (ma ρ st).toS fun xs s => match is, xs with
  | [i, j], [x, y] => .nx ((ρ.set i (some x)).set j (some y)) s
  | [i, j, l], [x, y, z] => .nx (((ρ.set i (some x)).set j (some y)).set l (some z)) s
  | _, _ => .no
variable {mas : En → Sto → Res (List Vl)}
theorem x_par {i j : Nat} (h : PS X s (tPar i j (tAs C mas))) : PS X s (tS C (sPar [i, j] mas)) := h.imp fun D σ H ⟨ρ, st, μ, F, h1, h2, h3⟩ => ⟨ρ, st, μ, F, h1, h2, PostS.bindA h3 fun xs s vs μ1 F1 H1 x1 r1 k1 h4 => by
  match xs, k1, h4 with
  | [], _, h4 => exact False.elim h4
  | [_], _, h4 => exact False.elim h4
  | [x, y], k1, h4 =>
    obtain ⟨v, u, rfl, hv, hu⟩ := k1.two
    exact ⟨v, u, rfl, h4 _ μ1 F1 H1 Ext.refl r1 (eok_set (eok_set (h1.ext x1) hv) hu)⟩
  | _ :: _ :: _ :: _, _, h4 => exact False.elim h4⟩
theorem x_par3 {i j l : Nat} (h : PS X s (tPar3 i j l (tAs C mas))) : PS X s (tS C (sPar [i, j, l] mas)) := h.imp fun D σ H ⟨ρ, st, μ, F, h1, h2, h3⟩ => ⟨ρ, st, μ, F, h1, h2, PostS.bindA h3 fun xs s vs μ1 F1 H1 x1 r1 k1 h4 => by
  match xs, k1, h4 with
  | [], _, h4 => exact False.elim h4
  | [_], _, h4 => exact False.elim h4
  | [_, _], _, h4 => exact False.elim h4
  | [x, y, z], k1, h4 =>
    cases k1 with
    | cons hv k2 =>
      obtain ⟨v, u, rfl, hu, hw⟩ := k2.two
      exact ⟨_, v, u, rfl, h4 _ μ1 F1 H1 Ext.refl r1 (eok_set (eok_set (eok_set (h1.ext x1) hv) hu) hw)⟩
  | _ :: _ :: _ :: _ :: _, _, h4 => exact False.elim h4⟩
/-- name op= e -/
def sAug (i : Nat) (f : PyData → PyData → Option Rv) (m : Ev) : Sv := fun ρ st => match ρ[i]? with
  | some (some (.d x)) => (mV m ρ st).toS fun y s => match view s y with
    | some b => match f x b with
      | some (.d z) => .nx (ρ.set i (some (.d z))) s
      | _ => .no
    | none => .no
  | _ => .no
end
end Cp
/-! Cp6: lists that change, what is walked, for, while, comprehensions. -/
namespace Cp
open PySem L2
section
variable {X : Cx} {C : Cn} {Q : VK} {μ μ1 : List Addr} {F H F1 H1 : Hp} {st : Sto} {e a b c o tg iter : Expr} {m mo ma mb mc : Ev} {pos p apos cpos : Pos} {es : List Expr} {D : Ends} {s t : Stmt} {ss body : List Stmt} {sa sb : Sv}

/-! ### methods of a list that changes -/
def lstAt (s : Sto) (x : Vl) : Option (List PyData) := match x with
  | .c k => match s[k]? with
    | some (.l xs) => some xs
    | _ => none
  | _ => none
theorem lstAt_get {k : Nat} {xs : List PyData} (e : lstAt st (.c k) = some xs) : st[k]? = some (.l xs) := by
  simp only [lstAt] at e
  split at e
  · rename_i h; cases e; exact h
  · cases e
theorem lstAt_ok {K : Kw} {x : Vl} {v : V} {xs : List PyData} (s : SR K μ F H st) (k : Vok K F μ x v) (e : lstAt st x = some xs) : ∃ i p ys, x = .c i ∧ v = .ref p ∧ μ[i]? = some p ∧ H p = some (.lst ys) ∧ DqAll K F ys xs := by
  cases x with
  | d _ => cases e
  | s _ => cases e
  | o _ => cases e
  | c i =>
    obtain ⟨p, hp, rfl⟩ := k
    simp only [lstAt] at e
    cases q : st[i]? with
    | none => simp only [q] at e; cases e
    | some cl =>
      cases cl with
      | m _ => simp only [q] at e; cases e
      | l zs =>
        simp only [q] at e; cases e
        obtain ⟨p', o', g1, g2, ys, rfl, g3⟩ := s.cell i _ q
        rw [hp] at g1; cases g1
        exact ⟨i, p, ys, rfl, rfl, hp, g2, g3⟩
/-- o.m(e) on a list: f gives the new items -/
def mMut (f : List PyData → PyData → Option (List PyData)) (mo ma : Ev) : Ev := fun ρ st => (mV mo ρ st).bind fun x s1 => match lstAt s1 x with
  | none => .no
  | some _ => (mV ma ρ s1).bind fun y s2 => match x, lstAt s2 x, view s2 y with
    | .c k, some xs, some d => match f xs d with
      | some zs => .ok (.d .none) (s2.set k (.l zs))
      | none => .no
    | _, _, _ => .no
def frzD (x : Vl) : Bool := match x with
  | .c _ => false
  | _ => true
def fApp (xs : List PyData) (d : PyData) : Option (List PyData) := if xs.length < sizeLine then some (xs ++ [d]) else none
def fExt (xs : List PyData) (d : PyData) : Option (List PyData) := match d with
  | .list ys => if xs.length + ys.length ≤ sizeLine then some (xs ++ ys) else none
  | _ => none
/-- x.append(e): e is data (a cell would be shared) -/
def mApp (mo ma : Ev) : Ev := fun ρ st => (mV mo ρ st).bind fun x s1 => match lstAt s1 x with
  | none => .no
  | some _ => (mV ma ρ s1).bind fun y s2 => match x, lstAt s2 x, y with
    | .c k, some xs, .d d => match fApp xs d with
      | some zs => .ok (.d .none) (s2.set k (.l zs))
      | none => .no
    | _, _, _ => .no
theorem s_app (h : PE X e (tBM X.K "list" rAppend (tV C (mV mo)) (tCons (tV C (mV ma)) tNil))) : PE X e (tM C (mApp mo ma)) :=
  h.imp fun σ H Q ⟨ρ, st, μ, F, h1, h2, h3⟩ => ⟨ρ, st, μ, F, h1, h2, Post.bindV gE_lat h3 fun x s v μ1 F1 H1 x1 r1 k1 h4 => by
    cases q : lstAt s x with
    | none => simp only [q] at h4; exact False.elim h4
    | some zs =>
      simp only [q] at h4
      obtain ⟨i, pp, ys, rfl, rfl, g1, g2, g3⟩ := lstAt_ok r1 k1 q
      refine ⟨.inl ⟨rfl, _, SqL.of g2⟩, ρ, s, μ1, F1, h1.ext x1, r1, Post.bindV gE_lat h4 fun y s2 u μ2 F2 H2 x2 r2 k2 h5 => ?_⟩
      have k1' := k1.ext x2
      cases q2 : lstAt s2 (.c i) with
      | none => simp only [q2] at h5; exact False.elim h5
      | some ws =>
        cases y with
        | c _ => simp only [q2] at h5; exact False.elim h5
        | s _ => simp only [q2] at h5; exact False.elim h5
        | o _ => simp only [q2] at h5; exact False.elim h5
        | d d =>
          obtain ⟨i', pp', ys', e1, e2, g1', g2', g3'⟩ := lstAt_ok r2 k1' q2
          cases e1
          cases e2
          simp only [q2, fApp] at h5
          split at h5
          · rename_i zz hz
            split at hz
            · cases hz
              obtain ⟨w1, w2⟩ := r2.write (c := .l (ws ++ [d])) (o := .lst (ys' ++ [u])) g1' ⟨_, rfl, g3'.app (.cons k2 .nil)⟩ (lstAt_get q2)
              exact ⟨_, _, _, rfl, rfl, g2', by rw [g3'.length]; assumption, h5 .non _ _ _ ⟨w2, w1, .non, fun _ z => nomatch z⟩⟩
            · cases hz
          · exact False.elim h5⟩
def mExt (mo ma : Ev) : Ev := fun ρ st => (mV mo ρ st).bind fun x s1 => match lstAt s1 x with
  | none => .no
  | some _ => (mV ma ρ s1).bind fun y s2 => match x, lstAt s2 x, view s2 y with
    | .c k, some xs, some d => match fExt xs d with
      | some zs => .ok (.d .none) (s2.set k (.l zs))
      | none => .no
    | _, _, _ => .no
theorem s_ext (h : PE X e (tBM X.K "list" rExtend (tV C (mV mo)) (tCons (tV C (mV ma)) tNil))) : PE X e (tM C (mExt mo ma)) :=
  h.imp fun σ H Q ⟨ρ, st, μ, F, h1, h2, h3⟩ => ⟨ρ, st, μ, F, h1, h2, Post.bindV gE_lat h3 fun x s v μ1 F1 H1 x1 r1 k1 h4 => by
    cases q : lstAt s x with
    | none => simp only [q] at h4; exact False.elim h4
    | some zs =>
      simp only [q] at h4
      obtain ⟨i, pp, ys, rfl, rfl, g1, g2, g3⟩ := lstAt_ok r1 k1 q
      refine ⟨.inl ⟨rfl, _, SqL.of g2⟩, ρ, s, μ1, F1, h1.ext x1, r1, Post.bindV gE_lat h4 fun y s2 u μ2 F2 H2 x2 r2 k2 h5 => ?_⟩
      have k1' := k1.ext x2
      cases q2 : lstAt s2 (.c i) with
      | none => simp only [q2] at h5; exact False.elim h5
      | some ws =>
        cases q3 : view s2 y with
        | none => simp only [q2, q3] at h5; exact False.elim h5
        | some d =>
          obtain ⟨i', pp', ys', e1, e2, g1', g2', g3'⟩ := lstAt_ok r2 k1' q2
          cases e1
          cases e2
          have vw := view_ok r2 k2 q3
          cases d with
          | list ds =>
            obtain ⟨pb, zs', rfl, b1, b2⟩ := vw
            simp only [q2, q3, fExt] at h5
            split at h5
            · rename_i zz hz
              split at hz
              · cases hz
                obtain ⟨w1, w2⟩ := r2.write (c := .l (ws ++ ds)) (o := .lst (ys' ++ zs')) g1' ⟨_, rfl, g3'.app b2⟩ (lstAt_get q2)
                exact ⟨_, _, _, _, rfl, rfl, g2', b1, by rw [g3'.length, b2.length]; assumption, h5 .non _ _ _ ⟨w2, w1, .non, fun _ z => nomatch z⟩⟩
              · cases hz
            · exact False.elim h5
          | _ => simp only [q2, q3, fExt] at h5; exact False.elim h5⟩
def mPop (mo : Ev) : Ev := fun ρ st => (mV mo ρ st).bind fun x s1 => match x, lstAt s1 x with
  | .c k, some xs => match xs[xs.length - 1]? with
    | some d => .ok (.d d) (s1.set k (.l xs.dropLast))
    | none => .no
  | _, _ => .no
theorem DqAll.dropLast {K : Kw} {vs : List V} {ds : List PyData} (h : DqAll K F vs ds) : DqAll K F vs.dropLast ds.dropLast := by
  rw [List.dropLast_eq_take, List.dropLast_eq_take, h.length]
  exact h.take _
theorem s_pop (h : PE X e (tBM0 X.K "list" rPop (tV C (mV mo)))) : PE X e (tM C (mPop mo)) :=
  h.imp fun σ H Q ⟨ρ, st, μ, F, h1, h2, h3⟩ => ⟨ρ, st, μ, F, h1, h2, Post.bindV gE_lat h3 fun x s v μ1 F1 H1 x1 r1 k1 h4 => by
    cases q : lstAt s x with
    | none => cases x <;> (simp only [q] at h4; exact False.elim h4)
    | some zs =>
      obtain ⟨i, pp, ys, rfl, rfl, g1, g2, g3⟩ := lstAt_ok r1 k1 q
      simp only [q] at h4
      cases q2 : zs[zs.length - 1]? with
      | none => simp only [q2] at h4; exact False.elim h4
      | some d =>
        simp only [q2] at h4
        obtain ⟨v', g4, g5⟩ := g3.get q2
        obtain ⟨w1, w2⟩ := r1.write (c := .l zs.dropLast) (o := .lst ys.dropLast) g1 ⟨_, rfl, g3.dropLast⟩ (lstAt_get q)
        exact ⟨.inl ⟨rfl, _, SqL.of g2⟩, _, _, _, rfl, rfl, g2, by rw [g3.length]; exact g4, h4 v' _ _ _ ⟨w2, w1, g5, fun _ z => nomatch z⟩⟩⟩

/-! ### what is walked -/
def Grd (g : Option (Nat × List PyData)) (ds : List PyData) (st : Sto) : Prop := match g with
  | none => True
  | some k => st[k.1]? = some (.l k.2)
/-- what data and cells lean on stands -/
structure Sx (μ : List Addr) (F : Hp) (μ' : List Addr) (F' : Hp) : Prop where
  same : Same F F'
  pre : ∃ r, μ' = μ ++ r
theorem Ext.sx (x : Ext μ F H μ1 F1 H1) : Sx μ F μ1 F1 := ⟨x.same, x.pre⟩
theorem Sx.refl : Sx μ F μ F := ⟨Same.refl F, ⟨[], by simp⟩⟩
theorem Sx.trans {μ2 : List Addr} {F2 : Hp} (x : Sx μ F μ1 F1) (y : Sx μ1 F1 μ2 F2) : Sx μ F μ2 F2 := by
  obtain ⟨r, e⟩ := x.pre
  obtain ⟨r', e'⟩ := y.pre
  exact ⟨x.same.trans y.same, r ++ r', by rw [e', e, List.append_assoc]⟩
theorem Sx.get (a : Sx μ F μ1 F1) {i : Nat} {x : Addr} (h : μ[i]? = some x) : μ1[i]? = some x := by
  obtain ⟨r, e⟩ := a.pre
  rw [e, List.getElem?_append_left (List.getElem?_eq_some_iff.mp h).1]
  exact h
/-- the thing J walks the data ds, while what stood stands (and the cell g holds them still) -/
structure Wk (KK : Kw) (J : It) (ds : List PyData) (g : Option (Nat × List PyData)) (μ : List Addr) (F : Hp) : Prop where
  go : ∀ (i : Nat) (μ1 : List Addr) (F1 H1 : Hp) (st1 : Sto) (d : PyData), Sx μ F μ1 F1 → SR KK μ1 F1 H1 st1 → Grd g ds st1 → ds[i]? = some d →
    J.go i H1 ∧ ∀ x H2, J.yld i H1 x H2 → ∃ F2, Ext μ1 F1 H1 μ1 F2 H2 ∧ SR KK μ1 F2 H2 st1 ∧ Dq KK F2 x d
  stop : ∀ (μ1 : List Addr) (F1 H1 : Hp) (st1 : Sto), Sx μ F μ1 F1 → SR KK μ1 F1 H1 st1 → Grd g ds st1 → J.stop ds.length H1
abbrev Src := List PyData × Option (Nat × List PyData)
abbrev gW (C : Cn) (R : It → Hp → Prop) : Src → Sto → List Addr → Hp → Hp → Prop := fun dg st μ F H => ∀ J μ' F' H', Ext μ F H μ' F' H' → SR C.K μ' F' H' st → Wk C.K J dg.1 dg.2 μ' F' → R J H'
theorem gW_lat {R : It → Hp → Prop} : Lat (gW C R) := ⟨fun x h J μ' F' H' y s w => h J μ' F' H' (x.trans y) s w⟩
def tI (C : Cn) (mi : En → Sto → Res Src) : TI := fun σ H R => At C σ H fun ρ st μ F => Post (C.at σ) (gW C R) μ F H (mi ρ st)
theorem _root_.L2.PI.imp {t u : TI} (h : PI X tg iter t) (w : ∀ σ H R, u σ H R → t σ H R) : PI X tg iter u := ⟨fun pins s σ H R I h' => h.run pins s σ H R I (w σ H R h')⟩
/-- a list, a tuple, a text -/
def iSeq (K : PySem.W.Frag) (te : TE) : TI := fun σ H R => te σ H fun v H1 => (∃ q xs, v = .ref q ∧ SqL K H1 q xs ∧ R (Itl K q) H1) ∨ (∃ q xs, v = .ref q ∧ SqT K H1 q xs ∧ R (Itt K q) H1) ∨ ∃ z, v = .str z ∧ R (Its z) H1
theorem pi_seq {te : TE} (h : PE X e te) : PI X tg e (iSeq X.K te) := by
  refine ⟨fun pins s σ H R I hw => thn (h.run pins s σ H _ I hw) fun u s1 ⟨v, H1, I1, rv, q⟩ => ?_⟩
  rcases q with ⟨q, xs, rfl, hq, hr⟩ | ⟨q, xs, rfl, hq, hr⟩ | ⟨z, rfl, hr⟩
  · obtain ⟨its, r2, pl, _⟩ := I1.list hq
    cases rv
    exact PySem.wpAny_pyIter_list pl.isList (pi_one (tk := s1.toks) I1 _ (turn_list q _) ⟨_, Heap.get?_push_size _ rfl, rfl, rfl⟩ hr)
  · obtain ⟨its, r2, pl, _⟩ := I1.tuple hq
    cases rv
    exact PySem.wpAny_pyIter_tuple (show s1.heap.IsTuple q its.toArray from pl) (pi_one (tk := s1.toks) I1 _ (turn_tuple q _) ⟨_, Heap.get?_push_size _ rfl, rfl, rfl⟩ hr)
  · obtain ⟨t, rfl⟩ := rv
    cases hw : z.cps.all (· < 128)
    · exact wpAny_pyIter_wide hw (pi_one (tk := s1.toks) I1 _ (turn_str _ z t "str_iterator" (.inr rfl)) ⟨_, Heap.get?_push_size _ rfl, rfl, rfl⟩ hr)
    · exact wpAny_pyIter_ascii hw (pi_one (tk := s1.toks) I1 _ (turn_str _ z t "str_ascii_iterator" (.inl rfl)) ⟨_, Heap.get?_push_size _ rfl, rfl, rfl⟩ hr)
def signs (z : Str) : List PyData := z.cps.toList.map fun c => .str ⟨#[c]⟩
def srcOf (s : Sto) (x : Vl) : Option Src := match x with
  | .c k => match s[k]? with
    | some (.l xs) => some (xs, some (k, xs))
    | _ => none
  | .d (.list xs) => some (xs, none)
  | .d (.tuple xs) => some (xs, none)
  | .d (.str z) => some (signs z, none)
  | _ => none
def okO {α : Type} (o : Option α) (s : Sto) : Res α := match o with
  | some k => .ok k s
  | none => .no
def iOf (m : Ev) : En → Sto → Res Src := fun ρ st => (mV m ρ st).bind fun x s => okO (srcOf s x) s
theorem sqt_inj {K : PySem.W.Frag} {xs : List V} {q : Addr} (h : H q = some (.tup xs)) : ∃ ys, SqT K H q ys := ⟨xs, SqT.of h⟩
theorem wk_list {K : PySem.W.Frag} {q : Addr} {ds : List PyData} {g : Option (Nat × List PyData)} (hx : ∀ μ1 F1 H1 st1, Sx μ F μ1 F1 → SR C.K μ1 F1 H1 st1 → Grd g ds st1 → ∃ ys, H1 q = some (.lst ys) ∧ DqAll C.K F1 ys ds) : Wk C.K (Itl K q) ds g μ F := by
  refine ⟨fun i μ1 F1 H1 st1 d x1 r1 k1 e => ?_, fun μ1 F1 H1 st1 x1 r1 k1 => ?_⟩
  · obtain ⟨ys, g1, g2⟩ := hx μ1 F1 H1 st1 x1 r1 k1
    obtain ⟨v, g3, g4⟩ := g2.get e
    refine ⟨⟨ys, v, SqL.of g1, g3⟩, fun x H2 ⟨e1, e2⟩ => ?_⟩
    subst e1
    have := e2 ys (SqL.of g1)
    rw [g3] at this
    cases this
    exact ⟨F1, Ext.refl, r1, g4⟩
  · obtain ⟨ys, g1, g2⟩ := hx μ1 F1 H1 st1 x1 r1 k1
    exact ⟨ys, SqL.of g1, Nat.le_of_eq g2.length⟩
theorem wk_tup {K : PySem.W.Frag} {xs : List V} {q : Addr} {ds : List PyData} {g : Option (Nat × List PyData)} (h1 : F q = some (.tup xs)) (h2 : DqAll C.K F xs ds) : Wk C.K (Itt K q) ds g μ F := by
  refine ⟨fun i μ1 F1 H1 st1 d x1 r1 k1 e => ?_, fun μ1 F1 H1 st1 x1 r1 k1 => ?_⟩
  · have g1 := r1.sub _ _ (x1.same _ _ h1)
    obtain ⟨v, g3, g4⟩ := (h2.same x1.same).get e
    refine ⟨⟨xs, v, SqT.of g1, g3⟩, fun x H2 ⟨e1, e2⟩ => ?_⟩
    subst e1
    have := e2 xs (SqT.of g1)
    rw [g3] at this
    cases this
    exact ⟨F1, Ext.refl, r1, g4⟩
  · exact ⟨xs, SqT.of (r1.sub _ _ (x1.same _ _ h1)), Nat.le_of_eq h2.length⟩
theorem wk_str {z : Str} {g : Option (Nat × List PyData)} : Wk C.K (Its z) (signs z) g μ F := by
  refine ⟨fun i μ1 F1 H1 st1 d x1 r1 k1 e => ?_, fun μ1 F1 H1 st1 x1 r1 k1 => ?_⟩
  · unfold signs at e
    rw [List.getElem?_map] at e
    obtain ⟨cc, h1, rfl⟩ := Option.map_eq_some_iff.mp e
    rw [Array.getElem?_toList] at h1
    refine ⟨(Array.getElem?_eq_some_iff.mp h1).1, fun x H2 ⟨e1, c', e2, e3⟩ => ?_⟩
    subst e1 e3
    rw [h1] at e2; cases e2
    exact ⟨F1, Ext.refl, r1, .str _⟩
  · show z.cps.size ≤ (signs z).length
    unfold signs
    rw [List.length_map, Array.length_toList]
    exact Nat.le_refl _
theorem i_seq (h : PE X e (tM C m)) : PI X tg e (tI C (iOf m)) := (pi_seq (pv_frz h)).imp fun σ H R ⟨ρ, st, μ, F, h1, h2, h3⟩ => ⟨ρ, st, μ, F, h1, h2, Post.bindV gW_lat h3 fun x s v μ1 F1 H1 x1 r1 k1 h4 => by
  cases x with
  | s _ => exact False.elim h4
  | o _ => exact False.elim h4
  | c k =>
    cases q : s[k]? with
    | none => simp only [srcOf, q, okO] at h4; exact False.elim h4
    | some cl =>
      cases cl with
      | m _ => simp only [srcOf, q, okO] at h4; exact False.elim h4
      | l xs =>
        simp only [srcOf, q, okO] at h4
        obtain ⟨pp, hp, rfl⟩ := k1
        obtain ⟨p', o', g1, g2, ys, rfl, g3⟩ := r1.cell k _ q
        rw [hp] at g1; cases g1
        refine .inl ⟨pp, ys, rfl, SqL.of g2, h4 _ μ1 F1 H1 Ext.refl r1 (wk_list fun μ2 F2 H2 st2 x2 r2 k2 => ?_)⟩
        obtain ⟨p2, o2, e1, e2, zs, rfl, e3⟩ := r2.cell k _ k2
        rw [x2.get hp] at e1; cases e1
        exact ⟨zs, e2, e3⟩
  | d x =>
    cases x with
    | list xs =>
      cases (show Dq C.K F1 v (.list xs) from k1) with
      | lst q1 q2 => exact .inl ⟨_, _, rfl, SqL.of (r1.sub _ _ q1), h4 _ μ1 F1 H1 Ext.refl r1 (wk_list fun μ2 F2 H2 st2 x2 r2 k2 => ⟨_, r2.sub _ _ (x2.same _ _ q1), q2.same x2.same⟩)⟩
    | tuple xs =>
      cases (show Dq C.K F1 v (.tuple xs) from k1) with
      | tup q1 q2 => exact .inr (.inl ⟨_, _, rfl, SqT.of (r1.sub _ _ q1), h4 _ μ1 F1 H1 Ext.refl r1 (wk_tup q1 q2)⟩)
    | str z =>
      cases (show Dq C.K F1 v (.str z) from k1)
      exact .inr (.inr ⟨z, rfl, h4 _ μ1 F1 H1 Ext.refl r1 wk_str⟩)
    | _ => exact False.elim h4⟩
/-- range -/
def rngD (lo hi : Int) : List PyData := (List.range (hi - lo).toNat).map fun i => .int (lo + (i : Nat))
theorem wk_rng {lo : Int} {n : Nat} {g : Option (Nat × List PyData)} : Wk C.K (Itr lo n) ((List.range n).map fun i => .int (lo + (i : Nat))) g μ F := by
  refine ⟨fun i μ1 F1 H1 st1 d x1 r1 k1 e => ?_, fun μ1 F1 H1 st1 x1 r1 k1 => ?_⟩
  · rw [List.getElem?_map] at e
    obtain ⟨cc, h1, rfl⟩ := Option.map_eq_some_iff.mp e
    obtain ⟨hl, he⟩ := List.getElem?_eq_some_iff.mp h1
    rw [List.getElem_range] at he
    subst he
    rw [List.length_range] at hl
    refine ⟨hl, fun x H2 ⟨e1, e2⟩ => ?_⟩
    subst e1 e2
    exact ⟨F1, Ext.refl, r1, .int _⟩
  · show n ≤ _
    rw [List.length_map, List.length_range]
    exact Nat.le_refl _
def rOk (i j : Int) : Bool := decide (-(2 ^ 62) ≤ i) && decide (i < 2 ^ 62) && decide (-(2 ^ 62) ≤ j) && decide (j < 2 ^ 62)
def oneI (xs : List Vl) : Option Int := match xs with
  | [.d (.int j)] => some j
  | _ => none
def twoI (xs : List Vl) : Option (Int × Int) := match xs with
  | [.d (.int i), .d (.int j)] => some (i, j)
  | _ => none
theorem oneI_ok {K : Kw} {xs : List Vl} {vs : List V} {j : Int} (k : VokAll K F μ xs vs) (e : oneI xs = some j) : vs = [.int j] := by
  unfold oneI at e
  split at e
  · cases e
    obtain ⟨v, rfl, hv⟩ := k.one
    cases (show Dq K F v (.int j) from hv)
    rfl
  · cases e
theorem twoI_ok {K : Kw} {xs : List Vl} {vs : List V} {ij : Int × Int} (k : VokAll K F μ xs vs) (e : twoI xs = some ij) : vs = [.int ij.1, .int ij.2] := by
  unfold twoI at e
  split at e
  · cases e
    obtain ⟨v, u, rfl, hv, hu⟩ := k.two
    cases (show Dq K F v (.int _) from hv)
    cases (show Dq K F u (.int _) from hu)
    rfl
  · cases e
def iRg1 (mas : En → Sto → Res (List Vl)) : En → Sto → Res Src := fun ρ st => (mas ρ st).bind fun xs s => match oneI xs with
  | some j => if rOk 0 j = true then .ok (rngD 0 j, none) s else .no
  | none => .no
def iRg2 (mas : En → Sto → Res (List Vl)) : En → Sto → Res Src := fun ρ st => (mas ρ st).bind fun xs s => match twoI xs with
  | some ij => if rOk ij.1 ij.2 = true then .ok (rngD ij.1 ij.2, none) s else .no
  | none => .no
variable {mas : En → Sto → Res (List Vl)}
theorem rOk_of {i j : Int} (h : rOk i j = true) : -(2 ^ 62) ≤ i ∧ i < 2 ^ 62 ∧ -(2 ^ 62) ≤ j ∧ j < 2 ^ 62 := by
  unfold rOk at h
  simp only [Bool.and_eq_true, decide_eq_true_eq] at h
  exact ⟨h.1.1.1, h.1.1.2, h.1.2, h.2⟩
theorem i_rng1 (hg : Gl X "range") (hm : X.mg "range" = none) (ha : PA X [a] (tAs C mas)) (hs : starEach [a] X.env = [(false, eval a X.env)] := by rfl) : PI X tg (.Call (.Name "range" p) [a] [] pos) (tI C (iRg1 mas)) :=
  (pi_range1 hg hm ha hs).imp fun σ H R ⟨ρ, st, μ, F, h1, h2, h3⟩ => ⟨ρ, st, μ, F, h1, h2, Post.bindA gW_lat h3 fun xs s vs μ1 F1 H1 x1 r1 k1 h4 => by
    cases q : oneI xs with
    | none => simp only [q] at h4; exact False.elim h4
    | some j =>
      simp only [q] at h4
      by_cases hr : rOk 0 j = true
      · rw [if_pos hr] at h4
        obtain ⟨_, _, q1, q2⟩ := rOk_of hr
        refine ⟨j, oneI_ok k1 q, q1, q2, h4 _ μ1 F1 H1 Ext.refl r1 ?_⟩
        show Wk C.K (Itr 0 j.toNat) (rngD 0 j) none μ1 F1
        unfold rngD
        rw [Int.sub_zero]
        exact wk_rng
      · rw [if_neg hr] at h4
        exact False.elim h4⟩
theorem i_rng2 (hg : Gl X "range") (hm : X.mg "range" = none) (ha : PA X [a, b] (tAs C mas)) (hs : starEach [a, b] X.env = [(false, eval a X.env), (false, eval b X.env)] := by rfl) (hs2 : starEach [b] X.env = [(false, eval b X.env)] := by rfl) : PI X tg (.Call (.Name "range" p) [a, b] [] pos) (tI C (iRg2 mas)) :=
  (pi_range2 hg hm ha hs hs2).imp fun σ H R ⟨ρ, st, μ, F, h1, h2, h3⟩ => ⟨ρ, st, μ, F, h1, h2, Post.bindA gW_lat h3 fun xs s vs μ1 F1 H1 x1 r1 k1 h4 => by
    cases q : twoI xs with
    | none => simp only [q] at h4; exact False.elim h4
    | some ij =>
      simp only [q] at h4
      by_cases hr : rOk ij.1 ij.2 = true
      · rw [if_pos hr] at h4
        exact ⟨ij.1, ij.2, twoI_ok k1 q, rOk_of hr, h4 _ μ1 F1 H1 Ext.refl r1 wk_rng⟩
      · rw [if_neg hr] at h4
        exact False.elim h4⟩
/-- list(range(..)) -/
def mLr (mi : En → Sto → Res (Int × Int)) : Ev := fun ρ st => (mi ρ st).bind fun ij s => if rOk ij.1 ij.2 = true ∧ (ij.2 - ij.1).toNat ≤ 2 ^ 24 then .ok (.n (.l (rngD ij.1 ij.2))) s else .no
def jOne (m : Ev) : En → Sto → Res (Int × Int) := fun ρ st => (mV m ρ st).bind fun x s => match x with
  | .d (.int j) => .ok (0, j) s
  | _ => .no
def jTwo (ma mb : Ev) : En → Sto → Res (Int × Int) := fun ρ st => (mV ma ρ st).bind fun x s1 => (mV mb ρ s1).bind fun y s2 => match x, y with
  | .d (.int i), .d (.int j) => .ok (i, j) s2
  | _, _ => .no
theorem rng_dq {K : Kw} (i j : Int) : DqAll K F (rgV i j) (rngD i j) := by
  unfold rgV rngD
  generalize List.range (j - i).toNat = l
  induction l with
  | nil => exact .nil
  | cons k l ih => exact .cons (.int _) ih
theorem s_lr2 (h : PE X e (tLstRg (tRg2 (tV C (mV ma)) (tV C (mV mb))))) : PE X e (tM C (mLr (jTwo ma mb))) :=
  h.imp fun σ H Q ⟨ρ, st, μ, F, h1, h2, h3⟩ => ⟨ρ, st, μ, F, h1, h2, by
    have h3' : PostE (C.at σ) Q μ F H ((mV ma ρ st).bind fun x s1 => ((mV mb ρ s1).bind fun y s2 => (match x, y with
      | .d (.int i), .d (.int j) => (.ok (i, j) s2 : Res (Int × Int))
      | _, _ => .no)).bind fun ij s => if rOk ij.1 ij.2 = true ∧ (ij.2 - ij.1).toNat ≤ 2 ^ 24 then .ok (.n (.l (rngD ij.1 ij.2))) s else .no) := by
      revert h3
      unfold mLr jTwo
      cases mV ma ρ st <;> exact id
    refine Post.bindV gE_lat h3' fun x s v μ1 F1 H1 x1 r1 k1 h4 => ⟨ρ, s, μ1, F1, h1.ext x1, r1, ?_⟩
    have h4' : PostE (C.at σ) Q μ1 F1 H1 ((mV mb ρ s).bind fun y s2 => (match x, y with
      | .d (.int i), .d (.int j) => (.ok (i, j) s2 : Res (Int × Int))
      | _, _ => .no).bind fun ij s => if rOk ij.1 ij.2 = true ∧ (ij.2 - ij.1).toNat ≤ 2 ^ 24 then .ok (.n (.l (rngD ij.1 ij.2))) s else .no) := by
      revert h4
      cases mV mb ρ s <;> exact id
    refine Post.bindV gE_lat h4' fun y s2 u μ2 F2 H2 x2 r2 k2 h5 => ?_
    split at h5
    · rename_i i j
      cases (show Dq C.K F1 v (.int i) from k1)
      cases (show Dq C.K F2 u (.int j) from k2)
      have h5 : PostE (C.at σ) Q μ2 F2 H2 (if rOk i j = true ∧ (j - i).toNat ≤ 2 ^ 24 then .ok (.n (.l (rngD i j))) s2 else .no) := h5
      split at h5
      · rename_i hh
        obtain ⟨q1, q2, q3, q4⟩ := rOk_of hh.1
        exact ⟨i, j, rfl, rfl, ⟨q1, q2, q3, q4, hh.2⟩, fun q hq => fin_n r2 h5 hq ⟨_, rfl, rng_dq i j⟩⟩
      · exact False.elim h5
    · exact False.elim h5⟩
theorem s_lr1 (h : PE X e (tLstRg (tRg1 (tV C (mV ma))))) : PE X e (tM C (mLr (jOne ma))) :=
  h.imp fun σ H Q ⟨ρ, st, μ, F, h1, h2, h3⟩ => ⟨ρ, st, μ, F, h1, h2, by
    have h3' : PostE (C.at σ) Q μ F H ((mV ma ρ st).bind fun x s1 => (match x with
      | .d (.int j) => (.ok (0, j) s1 : Res (Int × Int))
      | _ => .no).bind fun ij s => if rOk ij.1 ij.2 = true ∧ (ij.2 - ij.1).toNat ≤ 2 ^ 24 then .ok (.n (.l (rngD ij.1 ij.2))) s else .no) := by
      revert h3
      unfold mLr jOne
      cases mV ma ρ st <;> exact id
    refine Post.bindV gE_lat h3' fun x s v μ1 F1 H1 x1 r1 k1 h5 => ?_
    split at h5
    · rename_i j
      cases (show Dq C.K F1 v (.int j) from k1)
      have h5 : PostE (C.at σ) Q μ1 F1 H1 (if rOk 0 j = true ∧ (j - 0).toNat ≤ 2 ^ 24 then .ok (.n (.l (rngD 0 j))) s else .no) := h5
      split at h5
      · rename_i hh
        obtain ⟨q1, q2, q3, q4⟩ := rOk_of hh.1
        exact ⟨j, rfl, ⟨q1, q2, q3, q4, hh.2⟩, fun q hq => fin_n r1 h5 hq ⟨_, rfl, rng_dq 0 j⟩⟩
      · exact False.elim h5
    · exact False.elim h5⟩
end
end Cp
/-! Cp7: for, while, comprehensions. -/
namespace Cp
open PySem L2
section
variable {X : Cx} {C : Cn} {Q : VK} {μ μ1 : List Addr} {F H F1 H1 : Hp} {st : Sto} {e a b c o tg iter : Expr} {m mo ma mb mc : Ev} {pos p apos cpos : Pos} {es : List Expr} {D : Ends} {s t : Stmt} {ss body : List Stmt} {sa sb : Sv}

/-! ### for -/
open Classical in
noncomputable def forGo (g : Gm) (b : Sv) (gd : Option (Nat × List PyData)) (all : List PyData) : List PyData → En → Sto → RS
  | [], ρ, st => if Grd gd all st then .nx ρ st else .no
  | d :: r, ρ, st => if Grd gd all st then (g (.d d) ρ st).toS fun ρ1 s1 => match b ρ1 s1 with
      | .nx ρ2 s2 => forGo g b gd all r ρ2 s2
      | .ct ρ2 s2 => forGo g b gd all r ρ2 s2
      | .bk ρ2 s2 => .nx ρ2 s2
      | .rt v s2 => .rt v s2
      | .er x s2 => .er x s2
      | .no => .no
    else .no
noncomputable def sFor (mi : En → Sto → Res Src) (g : Gm) (b : Sv) : Sv := fun ρ st => (mi ρ st).toS fun dg s => forGo g b dg.2 dg.1 dg.1 ρ s
theorem PostS.bindI {m : Res Src} {k : Src → Sto → RS} {R : It → Hp → Prop} (h : PostS C D μ F H (m.toS k))
    (hk : ∀ x s J μ1 F1 H1, Ext μ F H μ1 F1 H1 → SR C.K μ1 F1 H1 s → Wk C.K J x.1 x.2 μ1 F1 → PostS C D μ1 F1 H1 (k x s) → R J H1) : Post C (gW C R) μ F H m := by
  cases m with
  | ok x s => exact fun J μ1 F1 H1 e s1 w => hk x s J μ1 F1 H1 e s1 w (PostS.later e h)
  | er e s => exact h
  | no => exact h
theorem PostS.bindG {m : Res En} {k : En → Sto → RS} {ws : List Nat} {σ : St} {P : St → Hp → Prop} (h : PostS C D μ F H (m.toS k))
    (hk : ∀ ρ s σ' μ1 F1 H1, Ext μ F H μ1 F1 H1 → SR C.K μ1 F1 H1 s → Eok C.K F1 μ1 ρ σ' → Agr ws σ σ' → PostS C D μ1 F1 H1 (k ρ s) → P σ' H1) : Post C (gG C ws σ P) μ F H m := by
  cases m with
  | ok x s => exact fun σ' μ1 F1 H1 e s1 k1 a => hk x s σ' μ1 F1 H1 e s1 k1 a (PostS.later e h)
  | er e s => exact h
  | no => exact h
theorem drop_cons {α : Type} : ∀ {l : List α} {i : Nat} (h : i < l.length), ∃ d, l[i]? = some d ∧ l.drop i = d :: l.drop (i + 1)
  | x :: l, 0, _ => ⟨x, rfl, rfl⟩
  | x :: l, i + 1, h => by
    obtain ⟨d, h1, h2⟩ := drop_cons (l := l) (i := i) (by simpa using h)
    exact ⟨d, by simpa using h1, by simpa using h2⟩
theorem x_for {mi : En → Sto → Res Src} {ws : List Nat} {g : Gm} (hp : PassesOwn (model X.prog X.w) X.A X.env X.xe) (hc : X.calm = true) (hi : PI X tg iter (tI C mi)) (hg : PG X tg (tG C ws g)) (hb : PSs X body (tS C sb))
    (hs : ∀ x, foldedSetIterable iter X.env x = pure x := by intro _; rfl) (fl : C.Flat := by exact fun _ _ _ _ _ h => h) : PS X (.For tg iter body [] pos) (tS C (sFor mi g sb)) := (ps_for hp hc hi hg hb hs).imp fun D σ0 H ⟨ρ, st, μ, F, h1, h2, h3⟩ => by
  refine ⟨ρ, st, μ, F, h1, h2, PostS.bindI h3 fun dg s J μ' F' Hs x0 r0 wk h4 => ?_⟩
  obtain ⟨ds, gd⟩ := dg
  refine ⟨fun i m σ H => m = ds.length - i ∧ i ≤ ds.length ∧ ∃ ρ1 st1 μ1 F1, Ext μ' F' Hs μ1 F1 H ∧ SR C.K μ1 F1 H st1 ∧ Eok C.K F1 μ1 ρ1 σ ∧ PostS (C.at σ0) D μ1 F1 H (forGo g sb gd ds (ds.drop i) ρ1 st1),
    ⟨ds.length, rfl, Nat.zero_le _, ρ, s, μ', F', Ext.refl, r0, h1.ext x0, h4⟩, ?_⟩
  rintro i m σ H ⟨rfl, hi, ρ1, st1, μ1, F1, x1, r1, k1, h5⟩
  by_cases hl : i < ds.length
  · obtain ⟨d, e1, e2⟩ := drop_cons hl
    rw [e2] at h5
    unfold forGo at h5
    by_cases hgd : Grd gd ds st1
    · rw [if_pos hgd] at h5
      obtain ⟨go, step⟩ := wk.go i μ1 F1 H st1 d x1.sx r1 hgd e1
      refine .inr ⟨go, fun σ' H' => ∃ ρ2 st2 μ2 F2, Ext μ' F' Hs μ2 F2 H' ∧ SR C.K μ2 F2 H' st2 ∧ Eok C.K F2 μ2 ρ2 σ' ∧ PostS (C.at σ0) D μ2 F2 H' (forGo g sb gd ds (ds.drop (i + 1)) ρ2 st2),
        fun σ' H' hn => ⟨ds.length - (i + 1), by omega, rfl, hl, hn⟩, fun x H2 y => ?_⟩
      obtain ⟨F2, x2, r2, kd⟩ := step x H2 y
      refine ⟨ρ1, st1, μ1, F2, .d d, k1.ext x2, r2, kd, PostS.bindG (C := C.at σ) (PostS.flat fl (PostS.later x2 h5)) fun ρ2 s2 σ2 μ3 F3 H3 x3 r3 k3 ag h6 => ⟨ρ2, s2, μ3, F3, k3, r3, ?_⟩⟩
      have h6 := PostS.flat (σ' := σ2) fl h6
      show PostS (C.at σ2) _ μ3 F3 H3 (sb ρ2 s2)
      cases q : sb ρ2 s2 with
      | nx ρ4 s4 => simp only [q] at h6; exact fun σ4 μ4 F4 H4 x4 r4 k4 => ⟨ρ4, s4, μ4, F4, ((x1.trans x2).trans x3).trans x4, r4, k4, PostS.flat fl (PostS.later x4 h6)⟩
      | ct ρ4 s4 => simp only [q] at h6; exact fun σ4 μ4 F4 H4 x4 r4 k4 => ⟨ρ4, s4, μ4, F4, ((x1.trans x2).trans x3).trans x4, r4, k4, PostS.flat fl (PostS.later x4 h6)⟩
      | bk ρ4 s4 => simp only [q] at h6; exact h6
      | rt v s4 => simp only [q] at h6; exact h6
      | er v s4 => simp only [q] at h6; exact h6
      | no => simp only [q] at h6; exact h6
    · rw [if_neg hgd] at h5; exact False.elim h5
  · have e : i = ds.length := by omega
    subst e
    rw [List.drop_length] at h5
    unfold forGo at h5
    by_cases hgd : Grd gd ds st1
    · rw [if_pos hgd] at h5
      exact .inl ⟨wk.stop μ1 F1 H st1 x1.sx r1 hgd, h5 σ μ1 F1 H Ext.refl r1 k1⟩
    · rw [if_neg hgd] at h5; exact False.elim h5

/-! ### while: at most n turns -/
def whGo (c : En → Sto → Res Bool) (b : Sv) : Nat → Sv
  | 0, _, _ => .no
  | n + 1, ρ, st => (c ρ st).toS fun k s => if k = true then (match b ρ s with
      | .nx ρ2 s2 => whGo c b n ρ2 s2
      | .ct ρ2 s2 => whGo c b n ρ2 s2
      | .bk ρ2 s2 => .nx ρ2 s2
      | .rt v s2 => .rt v s2
      | .er x s2 => .er x s2
      | .no => .no) else .nx ρ s
theorem x_while {bc : En → Sto → Res Bool} (n : Nat) (hp : PassesOwn (model X.prog X.w) X.A X.env X.xe) (hc : PT X c (tT C bc)) (hb : PSs X body (tS C sb)) (fl : C.Flat := by exact fun _ _ _ _ _ h => h) : PS X (.While c body [] pos) (tS C (whGo bc sb n)) := (ps_while hp hc hb).imp fun D σ0 H ⟨ρ, st, μ, F, h1, h2, h3⟩ => by
  refine ⟨fun m σ' H' => ∃ ρ1 st1 μ1 F1, SR C.K μ1 F1 H' st1 ∧ Eok C.K F1 μ1 ρ1 σ' ∧ PostS (C.at σ0) D μ1 F1 H' (whGo bc sb m ρ1 st1), ⟨n, ρ, st, μ, F, h2, h1, h3⟩, ?_⟩
  rintro m σ1 H1 ⟨ρ1, st1, μ1, F1, r1, k1, h4⟩
  cases m with
  | zero => exact False.elim h4
  | succ m =>
    unfold whGo at h4
    refine ⟨ρ1, st1, μ1, F1, k1, r1, PostS.bindB (C := C.at σ1) (PostS.flat fl h4) fun k s2 μ2 F2 H2 x2 r2 h5 => ?_⟩
    cases k with
    | false => simp only [Bool.false_eq_true, if_false] at h5 ⊢; exact h5 σ1 μ2 F2 H2 Ext.refl r2 (k1.ext x2)
    | true =>
      simp only [if_true] at h5 ⊢
      refine ⟨fun σ' H' => ∃ ρ1 st1 μ1 F1, SR C.K μ1 F1 H' st1 ∧ Eok C.K F1 μ1 ρ1 σ' ∧ PostS (C.at σ0) D μ1 F1 H' (whGo bc sb m ρ1 st1), fun σ' H' hn => ⟨m, Nat.lt_succ_self _, hn⟩, ρ1, s2, μ2, F2, k1.ext x2, r2, ?_⟩
      show PostS (C.at σ1) _ μ2 F2 H2 (sb ρ1 s2)
      cases q : sb ρ1 s2 with
      | nx ρ4 s4 => simp only [q] at h5; exact fun σ4 μ4 F4 H4 x4 r4 k4 => ⟨ρ4, s4, μ4, F4, r4, k4, PostS.flat fl (PostS.later x4 h5)⟩
      | ct ρ4 s4 => simp only [q] at h5; exact fun σ4 μ4 F4 H4 x4 r4 k4 => ⟨ρ4, s4, μ4, F4, r4, k4, PostS.flat fl (PostS.later x4 h5)⟩
      | bk ρ4 s4 => simp only [q] at h5; exact h5
      | rt v s4 => simp only [q] at h5; exact h5
      | er v s4 => simp only [q] at h5; exact h5
      | no => simp only [q] at h5; exact h5

/-! ### comprehensions -/
def wipeE (ρ : En) : List Nat → En
  | [] => ρ
  | v :: vs => (wipeE ρ vs).set v none
theorem wipeE_len (ρ : En) : ∀ vs : List Nat, (wipeE ρ vs).length = ρ.length
  | [] => rfl
  | v :: vs => by unfold wipeE; rw [List.length_set, wipeE_len ρ vs]
theorem eok_wipe {K : Kw} {ρ : En} {σ : St} (h : Eok K F μ ρ σ) : ∀ vs : List Nat, Eok K F μ (wipeE ρ vs) (wipe σ vs)
  | [] => h
  | v :: vs => by
    have ih := eok_wipe h vs
    refine ⟨by rw [wipeE_len, wipe_length]; exact h.1, fun j y e => ?_⟩
    unfold wipeE at e
    unfold wipe
    by_cases hj : v = j
    · subst hj
      by_cases hv : v < (wipeE ρ vs).length
      · rw [List.getElem?_set_self hv] at e; cases e
      · rw [List.getElem?_eq_none (by simpa using hv)] at e; cases e
    · rw [List.getElem?_set_ne hj] at e
      obtain ⟨w, h1, h2⟩ := ih.2 j y e
      exact ⟨w, by rw [List.getElem?_set_ne hj]; exact h1, h2⟩
theorem wipe_agr {σ σ' : St} {ws vs : List Nat} (a : Agr ws (wipe σ vs) σ') (hv : ∀ i, i ∈ ws → i ∈ vs) : wipe σ' vs = wipe σ vs := by
  have key : ∀ {τ : St} {us : List Nat} {j : Nat}, (wipe τ us)[j]? = if j ∈ us then (if j < τ.length then some none else none) else τ[j]? := by
    intro τ us
    induction us with
    | nil => intro j; simp [wipe]
    | cons u us ih =>
      intro j
      unfold wipe
      by_cases hj : u = j
      · subst hj
        rw [if_pos (by simp)]
        by_cases hl : u < τ.length
        · rw [List.getElem?_set_self (by rw [wipe_length]; exact hl), if_pos hl]
        · rw [List.getElem?_eq_none (by rw [List.length_set, wipe_length]; omega), if_neg hl]
      · rw [List.getElem?_set_ne hj, ih]
        by_cases hm : j ∈ us
        · rw [if_pos hm, if_pos (List.mem_cons_of_mem u hm)]
        · rw [if_neg hm, if_neg (fun z => (List.mem_cons.mp z).elim (fun e => hj e.symm) hm)]
  have hl : σ'.length = σ.length := by rw [a.1, wipe_length]
  apply List.ext_getElem?
  intro j
  rw [key, key, hl]
  by_cases hm : j ∈ vs
  · rw [if_pos hm, if_pos hm]
  · rw [if_neg hm, if_neg hm, a.2 j (fun z => hm (hv j z)), key, if_neg hm]
/-- within a comprehension no error leaves -/
def Cn.quiet (C : Cn) : Cn := { C with W := fun _ _ _ _ => False }
open Classical in
noncomputable def lcGo (g : Gm) (tt : En → Sto → Res Bool) (te : Ev) (gd : Option (Nat × List PyData)) (all : List PyData) (ρ : En) : List PyData → Sto → List PyData → Res (List PyData)
  | [], st, acc => if Grd gd all st then .ok acc st else .no
  | d :: r, st, acc => if Grd gd all st then (match g (.d d) ρ st with
      | .ok ρ1 s1 => match tt ρ1 s1 with
        | .ok true s2 => match mV te ρ1 s2 with
          | .ok (.d y) s3 => if acc.length < sizeLine then lcGo g tt te gd all ρ r s3 (acc ++ [y]) else .no
          | _ => .no
        | .ok false s2 => lcGo g tt te gd all ρ r s2 acc
        | _ => .no
      | _ => .no) else .no
noncomputable def mLc (mi : En → Sto → Res Src) (g : Gm) (tt : En → Sto → Res Bool) (te : Ev) (vs : List Nat) : Ev := fun ρ st => (mi ρ st).bind fun dg s => (lcGo g tt te dg.2 dg.1 (wipeE ρ vs) dg.1 s []).bind fun ys s' => .ok (.n (.l ys)) s'
theorem Post.bindI {β : Type} {G : β → Sto → List Addr → Hp → Hp → Prop} (gl : Lat G) {m : Res Src} {k : Src → Sto → Res β} {R : It → Hp → Prop} (h : Post C G μ F H (m.bind k))
    (hk : ∀ x s J μ1 F1 H1, Ext μ F H μ1 F1 H1 → SR C.K μ1 F1 H1 s → Wk C.K J x.1 x.2 μ1 F1 → Post C G μ1 F1 H1 (k x s) → R J H1) : Post C (gW C R) μ F H m := by
  cases m with
  | ok x s => exact fun J μ1 F1 H1 e s1 w => hk x s J μ1 F1 H1 e s1 w (Post.later gl e h)
  | er e s => exact h
  | no => exact h
/-- the new list at L within: an object of nobody's is written -/
theorem SR.out {K : Kw} (s : SR K μ F H st) {L : Addr} {u : HO} (hF : F L = none) (hm : L ∉ μ) : SR K μ F (upd H L u) st := by
  refine ⟨s.nd, s.len, s.sep, fun b o h => ?_, fun i c h => ?_⟩
  · rw [upd_ne (fun z => by subst z; rw [hF] at h; cases h)]; exact s.sub b o h
  · obtain ⟨p, o, h1, h2, h3⟩ := s.cell0 i c h
    refine ⟨p, o, h1, ?_, h3⟩
    rw [upd_ne (fun z => ?_)]; exact h2
    subst z
    exact hm (List.mem_of_getElem? h1)
theorem Ext.out (x : Ext μ F H μ1 F1 H1) {L : Addr} {u : HO} (h0 : H L = none) (h1 : H1 L ≠ none ∨ True) : Ext μ F H μ1 F1 (upd H1 L u) := by
  refine ⟨x.same, x.pre, fun b o h n => ?_, fun b h => ?_, x.nF, x.nC⟩
  · rw [upd_ne (fun z => by subst z; rw [h0] at h; cases h)]; exact x.fr b o h n
  · by_cases e : b = L
    · subst e; exact h0
    · rw [upd_ne e] at h; exact x.dom b h
/-- what is in nobody's hands stays so -/
theorem Ext.keepOut {L : Addr} {u : HO} (x : Ext μ F H μ1 F1 H1) (h : H L = some u) (hF : F L = none) (hm : L ∉ μ) : H1 L = some u ∧ F1 L = none ∧ L ∉ μ1 := by
  refine ⟨x.fr L u h hm, ?_, fun z => ?_⟩
  · cases q : F1 L with
    | none => rfl
    | some o =>
      rcases x.nF L o q with z | z | z
      · rw [hF] at z; cases z
      · rw [h] at z; cases z
      · exact absurd z hm
  · rcases x.nC L z with z | z
    · exact hm z
    · rw [h] at z; cases z
abbrev Blk (X : Cx) (scope : Scope) (J : Cx → Prop) : Prop := ∀ (s : Shared) (H : Hp) (A : Addr) (cl : List (Str × Addr)) (fp : List Addr), J (X.blk s H scope (compEnvC scope cl A X.env) fp)
/-- the state within a comprehension's loop: the list L so far -/
structure LcI (C : Cn) (μ' : List Addr) (F' H' : Hp) (L : Addr) (ρ : En) (σ : St) (acc : List PyData) (H : Hp) (st : Sto) (μ1 : List Addr) (F1 : Hp) : Prop where
  x : Ext μ' F' H' μ1 F1 H
  r : SR C.K μ1 F1 H st
  k : Eok C.K F1 μ1 ρ σ
  l : ∃ xs, H L = some (.lst xs) ∧ DqAll C.K F1 xs acc
  f : F1 L = none
  m : L ∉ μ1
theorem LcI.later {C : Cn} {μ' : List Addr} {F' H' : Hp} {L : Addr} {ρ : En} {σ : St} {acc : List PyData} {μ2 : List Addr} {F2 H2 : Hp} {st2 : Sto} (i : LcI C μ' F' H' L ρ σ acc H st μ1 F1) (x : Ext μ1 F1 H μ2 F2 H2) (r : SR C.K μ2 F2 H2 st2) : LcI C μ' F' H' L ρ σ acc H2 st2 μ2 F2 := by
  obtain ⟨xs, h1, h2⟩ := i.l
  obtain ⟨k1, k2, k3⟩ := x.keepOut h1 i.f i.m
  exact ⟨i.x.trans x, r, i.k.ext x, ⟨xs, k1, h2.same x.same⟩, k2, k3⟩
theorem LcI.put {C : Cn} {μ' : List Addr} {F' H' : Hp} {L : Addr} {ρ : En} {σ : St} {acc : List PyData} {y : PyData} {v : V} (h0 : H' L = none) (i : LcI C μ' F' H' L ρ σ acc H st μ1 F1) (hv : Dq C.K F1 v y) :
    ∃ xs, H L = some (.lst xs) ∧ xs.length = acc.length ∧ LcI C μ' F' H' L ρ σ (acc ++ [y]) (upd H L (.lst (xs ++ [v]))) st μ1 F1 := by
  obtain ⟨xs, h1, h2⟩ := i.l
  exact ⟨xs, h1, h2.length, i.x.out h0 (.inr trivial), i.r.out i.f i.m, i.k, ⟨_, upd_same, h2.app (.cons hv .nil)⟩, i.f, i.m⟩
theorem postV_quiet {r : Res Vl} {Q : VK} (h : match r with
    | .ok x s => ∀ v μ' F' H', Ext μ F H μ' F' H' → SR C.K μ' F' H' s → Vok C.K F' μ' x v → Q v H'
    | _ => False) : PostV C.quiet Q μ F H r := by
  cases r with
  | ok x s => exact h
  | er e s => exact False.elim h
  | no => exact h
theorem s_lcT {scope : Scope} {own : List (Str × Nat)} {mi : En → Sto → Res Src} {ws : List Nat} {g : Gm} {tt : En → Sto → Res Bool} {te : Ev} (hws : ∀ i, i ∈ ws → i ∈ own.map (·.2)) (σ : St) (H : Hp) (Q : VK) (h : tM C (mLc mi g tt te (own.map (·.2))) σ H Q) :
    tLc (tI C mi) (tG C.quiet ws g) (tT C.quiet tt) (tV C.quiet (mV te)) (own.map (·.2)) σ H Q := by
  obtain ⟨ρ, st, μ, F, h1, h2, h3⟩ := h
  refine ⟨ρ, st, μ, F, h1, h2, Post.bindI gE_lat h3 fun dg s J μ' F' H' x0 r0 wk h4 L hL => ?_⟩
  obtain ⟨ds, gd⟩ := dg
  obtain ⟨rn, xn⟩ := r0.newly (o := .lst []) hL
  have dd := r0.dead hL
  refine ⟨fun i m H => m = ds.length - i ∧ i ≤ ds.length ∧ ∃ acc st1 μ1 F1, LcI C μ' F' H' L (wipeE ρ (own.map (·.2))) (wipe σ (own.map (·.2))) acc H st1 μ1 F1 ∧
      PostE (C.at σ) Q μ' F' H' ((lcGo g tt te gd ds (wipeE ρ (own.map (·.2))) (ds.drop i) st1 acc).bind fun ys s' => .ok (.n (.l ys)) s'),
    ⟨ds.length, rfl, Nat.zero_le _, [], s, μ', F', ⟨xn, rn, (eok_wipe (h1.ext x0) _), ⟨[], upd_same, .nil⟩, dd.1, dd.2⟩, h4⟩, ?_⟩
  rintro i m H ⟨rfl, hi, acc, st1, μ1, F1, I, h5⟩
  by_cases hl : i < ds.length
  · obtain ⟨d, e1, e2⟩ := drop_cons hl
    rw [e2] at h5
    unfold lcGo at h5
    by_cases hgd : Grd gd ds st1
    · rw [if_pos hgd] at h5
      obtain ⟨go, step⟩ := wk.go i μ1 F1 H st1 d I.x.sx I.r hgd e1
      refine .inr ⟨go, fun H2 => ∃ acc st1 μ1 F1, LcI C μ' F' H' L (wipeE ρ (own.map (·.2))) (wipe σ (own.map (·.2))) acc H2 st1 μ1 F1 ∧
        PostE (C.at σ) Q μ' F' H' ((lcGo g tt te gd ds (wipeE ρ (own.map (·.2))) (ds.drop (i + 1)) st1 acc).bind fun ys s' => .ok (.n (.l ys)) s'), fun H2 hn => ⟨ds.length - (i + 1), by omega, rfl, hl, hn⟩, fun x H2 y => ?_⟩
      obtain ⟨F2, x2, r2, kd⟩ := step x H2 y
      have I2 := I.later x2 r2
      refine ⟨_, st1, μ1, F2, .d d, I2.k, r2, kd, ?_⟩
      show Post (C.quiet.at _) _ μ1 F2 H2 (g (.d d) (wipeE ρ (own.map (·.2))) st1)
      cases q : g (.d d) (wipeE ρ (own.map (·.2))) st1 with
      | no => simp only [q] at h5; exact False.elim h5
      | er _ _ => simp only [q] at h5; exact False.elim h5
      | ok ρ2 s2 =>
        simp only [q] at h5
        intro σ3 μ3 F3 H3 x3 r3 k3 ag
        have I3 := I2.later x3 r3
        refine ⟨wipe_agr ag hws, ρ2, s2, μ3, F3, k3, r3, ?_⟩
        show Post (C.quiet.at _) _ μ3 F3 H3 (tt ρ2 s2)
        cases q2 : tt ρ2 s2 with
        | no => simp only [q2] at h5; exact False.elim h5
        | er _ _ => simp only [q2] at h5; exact False.elim h5
        | ok k s3 =>
          intro μ4 F4 H4 x4 r4
          have I4 := I3.later x4 r4
          cases k with
          | false =>
            simp only [q2] at h5
            simp only [Bool.false_eq_true, if_false]
            exact ⟨acc, s3, μ4, F4, I4, h5⟩
          | true =>
            simp only [q2] at h5
            simp only [if_true]
            refine ⟨ρ2, s3, μ4, F4, k3.ext x4, r4, ?_⟩
            show Post (C.quiet.at _) _ μ4 F4 H4 (mV te ρ2 s3)
            cases q3 : mV te ρ2 s3 with
            | no => simp only [q3] at h5; exact False.elim h5
            | er _ _ => simp only [q3] at h5; exact False.elim h5
            | ok z s4 =>
              intro v μ5 F5 H5 x5 r5 k5
              have I5 := I4.later x5 r5
              cases z with
              | c _ => simp only [q3] at h5; exact False.elim h5
              | s _ => simp only [q3] at h5; exact False.elim h5
              | o _ => simp only [q3] at h5; exact False.elim h5
              | d y =>
                simp only [q3] at h5
                by_cases hz : acc.length < sizeLine
                · rw [if_pos hz] at h5
                  obtain ⟨xs, g1, g2, g3⟩ := I5.put hL k5
                  exact ⟨xs, g1, by rw [g2]; exact hz, acc ++ [y], s4, μ5, F5, g3, h5⟩
                · rw [if_neg hz] at h5; exact False.elim h5
    · rw [if_neg hgd] at h5; exact False.elim h5
  · have e : i = ds.length := by omega
    subst e
    rw [List.drop_length] at h5
    unfold lcGo at h5
    by_cases hgd : Grd gd ds st1
    · rw [if_pos hgd] at h5
      obtain ⟨xs, g1, g2⟩ := I.l
      exact .inl ⟨wk.stop μ1 F1 H st1 I.x.sx I.r hgd, h5 _ μ1 F1 H ⟨I.x, I.r, ⟨L, _, rfl, g1, ⟨xs, rfl, g2⟩, I.f, I.m⟩, fun c _ => ⟨L, rfl, hL⟩⟩⟩
    · rw [if_neg hgd] at h5; exact False.elim h5
theorem s_lc {scope : Scope} {own : List (Str × Nat)} {ifs : List Expr} {mi : En → Sto → Res Src} {ws : List Nat} {g : Gm} {tt : En → Sto → Res Bool} {te : Ev} (hc : X.calm = true) (hN : X.N.Nodup) (hi : PI X tg iter (tI C mi)) (ok : BlkOk X.N X.env.scope scope own)
    (hg : Blk X scope fun Y => PG Y tg (tG C.quiet ws g)) (ht : Blk X scope fun Y => PTs Y ifs (tT C.quiet tt)) (he : Blk X scope fun Y => PE Y e (tM C.quiet te)) (hws : ∀ i, i ∈ ws → i ∈ own.map (·.2)) (hs : ∀ x, foldedSetIterable iter X.env x = pure x := by intro _; rfl) :
    PE X (.ListComp e [⟨tg, iter, ifs, 0⟩] scope pos) (tM C (mLc mi g tt te (own.map (·.2)))) :=
  (pe_lc hc hN hi ok (fun s H A cl fp => hg s H A cl fp) (fun s H A cl fp => ht s H A cl fp) (fun s H A cl fp => pv_frz (he s H A cl fp)) hs).imp fun σ H Q h => s_lcT (scope := scope) hws σ H Q h
def ttY : En → Sto → Res Bool := fun _ st => .ok true st
theorem pts_yes : PTs X [] (tT C ttY) := ⟨fun pins s σ H Q I ⟨ρ, st, μ, F, h1, h2, h3⟩ => pts_nil.run pins s σ H Q I (h3 μ F H Ext.refl h2)⟩
theorem pts_if {bc : En → Sto → Res Bool} (h : PT X c (tT C bc)) : PTs X [c] (tT C bc) := pts_one h
/-- name = [..] -/
theorem x_setLc {i : Nat} {y : Str} {py : Pos} {spos : Pos} {scope : Scope} {own : List (Str × Nat)} {ifs : List Expr} {mi : En → Sto → Res Src} {ws : List Nat} {g : Gm} {tt : En → Sto → Res Bool} {te : Ev} (hc : X.calm = true) (hN : X.N.Nodup) (hy : X.N[i]? = some y) (hyl : X.env.scope.names.lookup y = some .local)
    (hsw : swapsWith (.ListComp e [⟨tg, iter, ifs, 0⟩] scope pos) (some (.Name y py)) spos.line X.env = pure true) (hi : PI X tg iter (tI C mi)) (ok : BlkOk X.N X.env.scope scope own)
    (hg : Blk X scope fun Y => PG Y tg (tG C.quiet ws g)) (ht : Blk X scope fun Y => PTs Y ifs (tT C.quiet tt)) (he : Blk X scope fun Y => PE Y e (tM C.quiet te)) (hws : ∀ i, i ∈ ws → i ∈ own.map (·.2)) (hs : ∀ x, foldedSetIterable iter X.env x = pure x := by intro _; rfl)
    (mv : (Ev → En → Sto → Res Vl)) (hmv : mv = mV ∨ mv = mVc) :
    PS X (.Assign [.Name y py] (.ListComp e [⟨tg, iter, ifs, 0⟩] scope pos) spos) (tS C (sAsg (gNm i) (mv (mLc mi g tt te (own.map (·.2)))))) := by
  have h := ps_setLc (spos := spos) (py := py) hc hN hy hyl hsw hi ok (fun s H A cl fp => hg s H A cl fp) (fun s H A cl fp => ht s H A cl fp) (fun s H A cl fp => pv_frz (he s H A cl fp)) hs
  refine x_asgLc h fun σ H Q hq => s_lcT (scope := scope) hws σ H Q ?_
  rcases hmv with rfl | rfl
  · obtain ⟨ρ, st, μ, F, h1, h2, h3⟩ := hq
    refine ⟨ρ, st, μ, F, h1, h2, ?_⟩
    show PostE (C.at σ) Q μ F H (mLc mi g tt te (own.map (·.2)) ρ st)
    cases q : mLc mi g tt te (own.map (·.2)) ρ st with
    | ok r s' =>
      simp only [mV, q] at h3
      intro v μ' F' H' o
      obtain ⟨F2, x2, s2, k⟩ := frz_out h2 o
      exact h3 v μ' F2 H' x2 s2 k
    | er e2 s' => simp only [mV, q] at h3; exact h3
    | no => simp only [mV, q] at h3; exact h3
  · obtain ⟨ρ, st, μ, F, h1, h2, h3⟩ := hq
    refine ⟨ρ, st, μ, F, h1, h2, ?_⟩
    show PostE (C.at σ) Q μ F H (mLc mi g tt te (own.map (·.2)) ρ st)
    cases q : mLc mi g tt te (own.map (·.2)) ρ st with
    | ok r s' =>
      simp only [mVc, q] at h3
      intro v μ' F' H' o
      cases r with
      | d x => exact h3 v μ' F' H' o.ext o.sr o.rok
      | c x => exact h3 v μ' F' H' o.ext o.sr o.rok
      | s x => exact h3 v μ' F' H' o.ext o.sr o.rok
      | o x => exact h3 v μ' F' H' o.ext o.sr o.rok
      | n c =>
        obtain ⟨ext, sr, ⟨a, o, rfl, g2, g3, g4, g5⟩, new⟩ := o
        obtain ⟨a', e1, h0⟩ := new c rfl
        cases e1
        obtain ⟨s2, x2⟩ := sr.celled ext h0 g2 g4 g5 g3
        exact h3 _ _ _ _ x2 s2 ⟨a, by rw [← sr.len]; simp, rfl⟩
    | er e2 s' => simp only [mVc, q] at h3; exact h3
    | no => simp only [mVc, q] at h3; exact h3
end
end Cp
/-! Cp8: comprehensions of two clauses. -/
namespace Cp
open PySem L2
section
variable {X : Cx} {C : Cn} {Q : VK} {μ μ1 : List Addr} {F H F1 H1 : Hp} {st : Sto} {e tg iter tg1 iter1 : Expr} {pos : Pos} {D : Ends}
open Classical in
noncomputable def lc2Go (g : Gm) (tt : En → Sto → Res Bool) (mi1 : En → Sto → Res Src) (g1 : Gm) (tt1 : En → Sto → Res Bool) (te : Ev) (gd : Option (Nat × List PyData)) (all : List PyData) (vs1 : List Nat) (ρ : En) : List PyData → Sto → List PyData → Res (List PyData)
  | [], st, acc => if Grd gd all st then .ok acc st else .no
  | d :: r, st, acc => if Grd gd all st then (match g (.d d) ρ st with
      | .ok ρ1 s1 => match tt ρ1 s1 with
        | .ok true s2 => match mi1 ρ1 s2 with
          | .ok dg s3 => match lcGo g1 tt1 te dg.2 dg.1 (wipeE ρ1 vs1) dg.1 s3 acc with
            | .ok acc' s4 => lc2Go g tt mi1 g1 tt1 te gd all vs1 ρ r s4 acc'
            | _ => .no
          | _ => .no
        | .ok false s2 => lc2Go g tt mi1 g1 tt1 te gd all vs1 ρ r s2 acc
        | _ => .no
      | _ => .no) else .no
noncomputable def mLc2 (mi : En → Sto → Res Src) (g : Gm) (tt : En → Sto → Res Bool) (mi1 : En → Sto → Res Src) (g1 : Gm) (tt1 : En → Sto → Res Bool) (te : Ev) (vs vs1 : List Nat) : Ev := fun ρ st => (mi ρ st).bind fun dg s => (lc2Go g tt mi1 g1 tt1 te dg.2 dg.1 vs1 (wipeE ρ vs) dg.1 s []).bind fun ys s' => .ok (.n (.l ys)) s'
theorem Eok.sx {K : Kw} (a : Sx μ F μ1 F1) {ρ : En} {σ : St} (h : Eok K F μ ρ σ) : Eok K F1 μ1 ρ σ :=
  ⟨h.1, fun i x e => let ⟨v, h1, h2⟩ := h.2 i x e; ⟨v, h1, by
    cases x with
    | d x => exact Dq.same a.same h2
    | c i => obtain ⟨p, h3, h4⟩ := h2; exact ⟨p, a.get h3, h4⟩
    | s ns => obtain ⟨p, h3, h4⟩ := h2; exact ⟨p, h3, a.same.seq h4⟩
    | o x => exact ObOk.same a.same h2⟩⟩
theorem s_lc2T {vs : List Nat} {mi mi1 : En → Sto → Res Src} {ws ws1 vs1 : List Nat} {g g1 : Gm} {tt tt1 : En → Sto → Res Bool} {te : Ev} (hws : ∀ i, i ∈ ws → i ∈ vs) (hws1 : ∀ i, i ∈ ws1 → i ∈ vs1) (σ : St) (H : Hp) (Q : VK)
    (h : tM C (mLc2 mi g tt mi1 g1 tt1 te vs vs1) σ H Q) :
    tLc2 (tI C mi) (tG C.quiet ws g) (tT C.quiet tt) (tI C.quiet mi1) (tG C.quiet ws1 g1) (tT C.quiet tt1) (tV C.quiet (mV te)) vs vs1 σ H Q := by
  obtain ⟨ρ, st, μ, F, h1, h2, h3⟩ := h
  refine ⟨ρ, st, μ, F, h1, h2, Post.bindI gE_lat h3 fun dg s J μ' F' H' x0 r0 wk h4 L hL => ?_⟩
  obtain ⟨ds, gd⟩ := dg
  obtain ⟨rn, xn⟩ := r0.newly (o := .lst []) hL
  have dd := r0.dead hL
  refine ⟨fun i m H => m = ds.length - i ∧ i ≤ ds.length ∧ ∃ acc st1 μ1 F1, LcI C μ' F' H' L (wipeE ρ vs) (wipe σ vs) acc H st1 μ1 F1 ∧
      PostE (C.at σ) Q μ' F' H' ((lc2Go g tt mi1 g1 tt1 te gd ds vs1 (wipeE ρ vs) (ds.drop i) st1 acc).bind fun ys s' => .ok (.n (.l ys)) s'),
    ⟨ds.length, rfl, Nat.zero_le _, [], s, μ', F', ⟨xn, rn, (eok_wipe (h1.ext x0) _), ⟨[], upd_same, .nil⟩, dd.1, dd.2⟩, h4⟩, ?_⟩
  rintro i m H ⟨rfl, hi, acc, st1, μ1, F1, I, h5⟩
  by_cases hl : i < ds.length
  · obtain ⟨d, e1, e2⟩ := drop_cons hl
    rw [e2] at h5
    unfold lc2Go at h5
    by_cases hgd : Grd gd ds st1
    · rw [if_pos hgd] at h5
      obtain ⟨go, step⟩ := wk.go i μ1 F1 H st1 d I.x.sx I.r hgd e1
      refine .inr ⟨go, fun H2 => ∃ acc st1 μ1 F1, LcI C μ' F' H' L (wipeE ρ vs) (wipe σ vs) acc H2 st1 μ1 F1 ∧
        PostE (C.at σ) Q μ' F' H' ((lc2Go g tt mi1 g1 tt1 te gd ds vs1 (wipeE ρ vs) (ds.drop (i + 1)) st1 acc).bind fun ys s' => .ok (.n (.l ys)) s'), fun H2 hn => ⟨ds.length - (i + 1), by omega, rfl, hl, hn⟩, fun x H2 y => ?_⟩
      obtain ⟨F2, x2, r2, kd⟩ := step x H2 y
      have I2 := I.later x2 r2
      refine ⟨_, st1, μ1, F2, .d d, I2.k, r2, kd, ?_⟩
      show Post (C.quiet.at _) _ μ1 F2 H2 (g (.d d) (wipeE ρ vs) st1)
      cases q : g (.d d) (wipeE ρ vs) st1 with
      | no => simp only [q] at h5; exact False.elim h5
      | er _ _ => simp only [q] at h5; exact False.elim h5
      | ok ρ2 s2 =>
        simp only [q] at h5
        intro σ3 μ3 F3 H3 x3 r3 k3 ag
        have I3 := I2.later x3 r3
        refine ⟨wipe_agr ag hws, ρ2, s2, μ3, F3, k3, r3, ?_⟩
        show Post (C.quiet.at _) _ μ3 F3 H3 (tt ρ2 s2)
        cases q2 : tt ρ2 s2 with
        | no => simp only [q2] at h5; exact False.elim h5
        | er _ _ => simp only [q2] at h5; exact False.elim h5
        | ok k s3 =>
          intro μ4 F4 H4 x4 r4
          have I4 := I3.later x4 r4
          cases k with
          | false =>
            simp only [q2] at h5
            simp only [Bool.false_eq_true, if_false]
            exact ⟨acc, s3, μ4, F4, I4, h5⟩
          | true =>
            simp only [q2] at h5
            simp only [if_true]
            have k4 := k3.ext x4
            refine ⟨ρ2, s3, μ4, F4, k4, r4, ?_⟩
            show Post (C.quiet.at _) _ μ4 F4 H4 (mi1 ρ2 s3)
            cases q3 : mi1 ρ2 s3 with
            | no => simp only [q3] at h5; exact False.elim h5
            | er _ _ => simp only [q3] at h5; exact False.elim h5
            | ok dg s4 =>
              simp only [q3] at h5
              obtain ⟨es, ge⟩ := dg
              intro J1 μ5 F5 H5 x5 r5 wk1
              have I5 := I4.later x5 r5
              have k5 : Eok C.K F5 μ5 ρ2 σ3 := k4.ext x5
              refine ⟨fun j m H => m = es.length - j ∧ j ≤ es.length ∧ ∃ acc st1 μ1 F1, LcI C μ' F' H' L (wipeE ρ vs) (wipe σ vs) acc H st1 μ1 F1 ∧ Sx μ5 F5 μ1 F1 ∧
                  PostE (C.at σ) Q μ' F' H' ((match lcGo g1 tt1 te ge es (wipeE ρ2 vs1) (es.drop j) st1 acc with
                    | .ok acc' s4 => lc2Go g tt mi1 g1 tt1 te gd ds vs1 (wipeE ρ vs) (ds.drop (i + 1)) s4 acc'
                    | _ => .no).bind fun ys s' => .ok (.n (.l ys)) s'),
                ⟨es.length, rfl, Nat.zero_le _, acc, s4, μ5, F5, I5, Sx.refl, h5⟩, ?_⟩
              rintro j m6 H6 ⟨rfl, hj, acc6, st6, μ6, F6, I6, y6, h6⟩
              by_cases hjl : j < es.length
              · obtain ⟨d6, e3, e4⟩ := drop_cons hjl
                rw [e4] at h6
                unfold lcGo at h6
                by_cases hge : Grd ge es st6
                · rw [if_pos hge] at h6
                  obtain ⟨go1, step1⟩ := wk1.go j μ6 F6 H6 st6 d6 y6 I6.r hge e3
                  refine .inr ⟨go1, fun H2 => ∃ acc st1 μ1 F1, LcI C μ' F' H' L (wipeE ρ vs) (wipe σ vs) acc H2 st1 μ1 F1 ∧ Sx μ5 F5 μ1 F1 ∧
                    PostE (C.at σ) Q μ' F' H' ((match lcGo g1 tt1 te ge es (wipeE ρ2 vs1) (es.drop (j + 1)) st1 acc with
                      | .ok acc' s4 => lc2Go g tt mi1 g1 tt1 te gd ds vs1 (wipeE ρ vs) (ds.drop (i + 1)) s4 acc'
                      | _ => .no).bind fun ys s' => .ok (.n (.l ys)) s'), fun H2 hn => ⟨es.length - (j + 1), by omega, rfl, hjl, hn⟩, fun x H7 yy => ?_⟩
                  obtain ⟨F7, x7, r7, kd7⟩ := step1 x H7 yy
                  have I7 := I6.later x7 r7
                  have w7 : Eok C.K F7 μ6 (wipeE ρ2 vs1) (wipe σ3 vs1) := eok_wipe (k5.sx (y6.trans x7.sx)) _
                  refine ⟨_, st6, μ6, F7, .d d6, w7, r7, kd7, ?_⟩
                  show Post (C.quiet.at _) _ μ6 F7 H7 (g1 (.d d6) (wipeE ρ2 vs1) st6)
                  cases q5 : g1 (.d d6) (wipeE ρ2 vs1) st6 with
                  | no => simp only [q5] at h6; exact False.elim h6
                  | er _ _ => simp only [q5] at h6; exact False.elim h6
                  | ok ρ8 s8 =>
                    simp only [q5] at h6
                    intro σ8 μ8 F8 H8 x8 r8 k8 ag8
                    have I8 := I7.later x8 r8
                    refine ⟨wipe_agr ag8 hws1, ρ8, s8, μ8, F8, k8, r8, ?_⟩
                    show Post (C.quiet.at _) _ μ8 F8 H8 (tt1 ρ8 s8)
                    cases q6 : tt1 ρ8 s8 with
                    | no => simp only [q6] at h6; exact False.elim h6
                    | er _ _ => simp only [q6] at h6; exact False.elim h6
                    | ok k9 s9 =>
                      intro μ9 F9 H9 x9 r9
                      have I9 := I8.later x9 r9
                      cases k9 with
                      | false =>
                        simp only [q6] at h6
                        simp only [Bool.false_eq_true, if_false]
                        exact ⟨acc6, s9, μ9, F9, I9, ((y6.trans x7.sx).trans x8.sx).trans x9.sx, h6⟩
                      | true =>
                        simp only [q6] at h6
                        simp only [if_true]
                        refine ⟨ρ8, s9, μ9, F9, k8.ext x9, r9, ?_⟩
                        show Post (C.quiet.at _) _ μ9 F9 H9 (mV te ρ8 s9)
                        cases q7 : mV te ρ8 s9 with
                        | no => simp only [q7] at h6; exact False.elim h6
                        | er _ _ => simp only [q7] at h6; exact False.elim h6
                        | ok z s10 =>
                          intro v μ10 F10 H10 x10 r10 k10
                          have I10 := I9.later x10 r10
                          cases z with
                          | c _ => simp only [q7] at h6; exact False.elim h6
                          | s _ => simp only [q7] at h6; exact False.elim h6
                          | o _ => simp only [q7] at h6; exact False.elim h6
                          | d y =>
                            simp only [q7] at h6
                            by_cases hz : acc6.length < sizeLine
                            · rw [if_pos hz] at h6
                              obtain ⟨xs, g1', g2', g3'⟩ := I10.put hL k10
                              exact ⟨xs, g1', by rw [g2']; exact hz, acc6 ++ [y], s10, μ10, F10, g3', (((y6.trans x7.sx).trans x8.sx).trans x9.sx).trans x10.sx, h6⟩
                            · rw [if_neg hz] at h6; exact False.elim h6
                · rw [if_neg hge] at h6; exact False.elim h6
              · have e : j = es.length := by omega
                subst e
                rw [List.drop_length] at h6
                unfold lcGo at h6
                by_cases hge : Grd ge es st6
                · rw [if_pos hge] at h6
                  exact .inl ⟨wk1.stop μ6 F6 H6 st6 y6 I6.r hge, ⟨acc6, st6, μ6, F6, I6, h6⟩⟩
                · rw [if_neg hge] at h6; exact False.elim h6
    · rw [if_neg hgd] at h5; exact False.elim h5
  · have e : i = ds.length := by omega
    subst e
    rw [List.drop_length] at h5
    unfold lc2Go at h5
    by_cases hgd : Grd gd ds st1
    · rw [if_pos hgd] at h5
      obtain ⟨xs, g1, g2⟩ := I.l
      exact .inl ⟨wk.stop μ1 F1 H st1 I.x.sx I.r hgd, h5 _ μ1 F1 H ⟨I.x, I.r, ⟨L, _, rfl, g1, ⟨xs, rfl, g2⟩, I.f, I.m⟩, fun c _ => ⟨L, rfl, hL⟩⟩⟩
    · rw [if_neg hgd] at h5; exact False.elim h5
theorem s_lc2 {scope : Scope} {own : List (Str × Nat)} {ifs ifs1 : List Expr} {mi mi1 : En → Sto → Res Src} {ws ws1 vs1 : List Nat} {g g1 : Gm} {tt tt1 : En → Sto → Res Bool} {te : Ev} (hc : X.calm = true) (hN : X.N.Nodup) (hi : PI X tg iter (tI C mi)) (ok : BlkOk X.N X.env.scope scope own) (hv : ∀ i ∈ vs1, i ∈ own.map (·.2))
    (hg : Blk X scope fun Y => PG Y tg (tG C.quiet ws g)) (ht : Blk X scope fun Y => PTs Y ifs (tT C.quiet tt)) (hi1 : Blk X scope fun Y => PI Y tg1 iter1 (tI C.quiet mi1)) (hg1 : Blk X scope fun Y => PG Y tg1 (tG C.quiet ws1 g1)) (ht1 : Blk X scope fun Y => PTs Y ifs1 (tT C.quiet tt1))
    (he : Blk X scope fun Y => PE Y e (tM C.quiet te)) (hws : ∀ i, i ∈ ws → i ∈ own.map (·.2)) (hws1 : ∀ i, i ∈ ws1 → i ∈ vs1) (hs : ∀ x, foldedSetIterable iter X.env x = pure x := by intro _; rfl) (hs1 : ∀ env x, foldedSetIterable iter1 env x = pure x := by intro _ _; rfl) :
    PE X (.ListComp e [⟨tg, iter, ifs, 0⟩, ⟨tg1, iter1, ifs1, 0⟩] scope pos) (tM C (mLc2 mi g tt mi1 g1 tt1 te (own.map (·.2)) vs1)) :=
  (pe_lc2 hc hN hi ok hv (fun s H A cl fp => hg s H A cl fp) (fun s H A cl fp => ht s H A cl fp) (fun s H A cl fp => hi1 s H A cl fp) (fun s H A cl fp => hg1 s H A cl fp) (fun s H A cl fp => ht1 s H A cl fp) (fun s H A cl fp => pv_frz (he s H A cl fp)) hs hs1).imp fun σ H Q h => s_lc2T hws hws1 σ H Q h
end
end Cp
/-! Cp9: what a def means, and its call. -/
namespace Cp
open PySem L2
abbrev Fs := List Vl → Sto → Res Rv
/-- room for k calls, and nothing is being shown -/
structure Rm (k : Nat) (A : Around) : Prop where
  room : Room k A
  gd : A.guards = some []
theorem Rm.mono {j k : Nat} {A : Around} (r : Rm k A) (h : j ≤ k) : Rm j A := ⟨r.room.mono h, r.gd⟩
theorem Rm.hu {k : Nat} {A : Around} (r : Rm k A) : A.units + 64 < cLine := r.room.units
/-- a def's promise out of its meaning -/
def spF (K : Kw) (mg : Str → Option Value) (sem : Fs) : Sp := fun vs H Q E => ∃ args st μ F, VokAll K F μ args vs ∧ SR K μ F H st ∧ PostE (Cn.ofE K mg E) Q μ F H (sem args st)
structure FnC (P : Program) (w : World) (K : PySem.W.Frag) (mg : Str → Option Value) (base : Heap) (k : Nat) (f : Addr) (fd : FuncData) (ps : List Str) (sem : Fs) : Prop where
  len : ∀ vs H Q E, spF ⟨K, w⟩ mg sem vs H Q E → vs.length = ps.length
  run : ∀ (A : Around) (outer : List Env) (s : Shared) (H : Hp) (args : Args) (us : List Value) (vs : List V) (Q : VK) (E : XK), Rm k A → Env0 P w K mg base A outer s H → BindsTo s fd args (ps.zip us) → Vals vs us → spF ⟨K, w⟩ mg sem vs H Q E →
    codeAny (model P w) A (.call (.ref f) args) (CR (L2.CX P w) outer P w H s Q E) s
/-- a def that is known by its name -/
def Kn (P : Program) (w : World) (K : PySem.W.Frag) (mg : Str → Option Value) (base : Heap) (x : Str) (k : Nat) (sem : Fs) : Prop :=
  ∃ f fd ps, mg x = some (.ref f) ∧ PySem.W.keepIn K (.ref f) = true ∧ Binds K fd ps [] ∧ FnC P w K mg base k f fd ps sem
section
variable {P : Program} {w : World} {K : PySem.W.Frag} {mg : Str → Option Value} {base : Heap} {x : Str} {k j : Nat} {sem : Fs}
theorem Kn.mono (h : Kn P w K mg base x j sem) (hk : j ≤ k) : Kn P w K mg base x k sem := by
  obtain ⟨f, fd, ps, h1, h2, h3, G⟩ := h
  exact ⟨f, fd, ps, h1, h2, h3, G.len, fun A outer s H args us vs Q E r => G.run A outer s H args us vs Q E (r.mono hk)⟩
/-- a meaning that says less -/
theorem Kn.less {sem' : Fs} (h : Kn P w K mg base x k sem) (hs : ∀ args st, sem' args st = .no ∨ sem' args st = sem args st) : Kn P w K mg base x k sem' := by
  obtain ⟨f, fd, ps, h1, h2, h3, G⟩ := h
  have go : ∀ {vs H Q E}, spF ⟨K, w⟩ mg sem' vs H Q E → spF ⟨K, w⟩ mg sem vs H Q E := fun {vs H Q E} ⟨args, st, μ, F, a, b, c⟩ => ⟨args, st, μ, F, a, b, by
    rcases hs args st with e | e
    · rw [e] at c; exact False.elim c
    · rw [e] at c; exact c⟩
  exact ⟨f, fd, ps, h1, h2, h3, fun vs H Q E h => G.len vs H Q E (go h), fun A outer s H args us vs Q E r e0 b v h => G.run A outer s H args us vs Q E r e0 b v (go h)⟩
end

/-! ### the call -/
def gcR (n : Nat) : Res Rv → Res Rv
  | .ok r s => match r with
    | .d x => .ok (.d x) (s.take n)
    | .s ns => .ok (.s ns) (s.take n)
    | .o x => .ok (.o x) (s.take n)
    | .n c => .ok (.n c) (s.take n)
    | .c i => if i < n then .ok (.c i) (s.take n) else match s[i]? with
      | some c => if isGone c = true then .no else .ok (.n c) (s.take n)
      | none => .no
  | .er e s => .er e (s.take n)
  | .no => .no
def mCall (sem : Fs) (mas : En → Sto → Res (List Vl)) : Ev := fun ρ st => (mas ρ st).bind fun xs s => gcR st.length (sem xs s)
/-- what a body's rules ask of where it stands -/
structure Bd (k : Nat) (X : Cx) (C : Cn) : Prop where
  cm : X.calm = true
  nd : X.N.Nodup
  hp : PassesOwn (model X.prog X.w) X.A X.env X.xe
  ps : ∀ σ, PassesAt (L2.CX X.prog X.w) X σ (C.at σ).E
  hK : C.K.K = X.K
  hw : C.K.w = X.w
  hm : C.mg = X.mg
  rm : Rm k X.A
  tk : Takes X C.W
theorem Bd.blk {k : Nat} {X : Cx} {C : Cn} (B : Bd k X C) (s : Shared) (H : Hp) (scope : Scope) (e : Env) (fp : List Addr) : Bd k (X.blk s H scope e fp) C.quiet :=
  ⟨B.cm, B.nd, PassesOwn.never, fun _ _ _ _ _ _ _ z => passL _ _ _ _ _ _ (by assumption) z, B.hK, B.hw, B.hm, B.rm, fun _ _ ⟨_, _, _, _, _, _, _, _, _, _, _, _, _, _, _, _, w⟩ => False.elim w⟩
theorem call_post {C : Cn} {Q : VK} {μ μ1 : List Addr} {F H F1 H1 : Hp} {st : Sto} {r : Res Rv} (h0 : SR C.K μ F H st) (x : Ext μ F H μ1 F1 H1) (h : PostE C Q μ F H (gcR st.length r)) : PostE C Q μ1 F1 H1 r := by
  cases r with
  | no => exact h
  | er e s2 =>
    intro cls dd μ2 F2 H2 y r2 k
    obtain ⟨c1, c2, c3⟩ := r2.cut (x.trans y) st.length h0.len
    exact h cls dd μ F2 H2 c2 c1 k
  | ok r s2 =>
    intro v μ2 F2 H2 o
    obtain ⟨y, r2, ok, new⟩ := o
    have z := x.trans y
    obtain ⟨c1, c2, c3⟩ := r2.cut z st.length h0.len
    cases r with
    | d d => exact h v μ F2 H2 ⟨c2, c1, ok, fun _ e => nomatch e⟩
    | s ns => exact h v μ F2 H2 ⟨c2, c1, ok, fun _ e => nomatch e⟩
    | o x => exact h v μ F2 H2 ⟨c2, c1, ok, fun _ e => nomatch e⟩
    | n c =>
      obtain ⟨a, o, rfl, g1, g2, g3, g4⟩ := ok
      obtain ⟨a', e1, g5⟩ := new c rfl
      cases e1
      exact h _ μ F2 H2 ⟨c2, c1, ⟨a, o, rfl, g1, g2, g3, fun hm => g4 (by rw [c3] at hm; exact List.mem_of_mem_take hm)⟩, fun _ _ => ⟨a, rfl, x.dom a g5⟩⟩
    | c i =>
      obtain ⟨a, ha, rfl⟩ := ok
      simp only [gcR] at h
      by_cases hi : i < st.length
      · rw [if_pos hi] at h
        exact h _ μ F2 H2 ⟨c2, c1, ⟨a, by rw [c3, List.getElem?_take_of_lt hi]; exact ha, rfl⟩, fun _ e => nomatch e⟩
      · rw [if_neg hi] at h
        cases q : s2[i]? with
        | none => simp only [q] at h; exact False.elim h
        | some cl =>
          simp only [q] at h
          have hz : isGone cl = false := by
            cases e : isGone cl with
            | false => rfl
            | true => rw [if_pos e] at h; exact False.elim h
          rw [if_neg (by rw [hz]; exact Bool.false_ne_true)] at h
          obtain ⟨b, o, g1, g2, g3⟩ := r2.cell i cl q hz
          rw [ha] at g1; cases g1
          have hmem : a ∈ μ2 := List.mem_of_getElem? ha
          have hn : a ∉ μ := fun hm => by
            rw [c3] at hm
            obtain ⟨j, hj, e⟩ := List.getElem_of_mem hm
            rw [List.length_take] at hj
            rw [List.getElem_take] at e
            obtain ⟨l2, e2⟩ := List.getElem?_eq_some_iff.mp ha
            have := (List.getElem_inj r2.nd).mp (e.trans e2.symm)
            omega
          exact h _ μ F2 H2 ⟨c2, c1, ⟨a, o, rfl, g2, g3, r2.sep i a cl ha q (notDead hz), hn⟩, fun _ _ => ⟨a, rfl, (z.nC a hmem).elim (fun e => absurd e hn) id⟩⟩
theorem Post.bindA0 {C : Cn} {μ : List Addr} {F H : Hp} {β : Type} {G : β → Sto → List Addr → Hp → Hp → Prop} {m : Res (List Vl)} {k : List Vl → Sto → Res β} {Q : List V → Hp → Prop} (h : Post C G μ F H (m.bind k))
    (hk : ∀ x s v μ1 F1 H1, Ext μ F H μ1 F1 H1 → SR C.K μ1 F1 H1 s → VokAll C.K F1 μ1 x v → Post C G μ F H (k x s) → Q v H1) : PostA C Q μ F H m := by
  cases m with
  | ok x s => exact fun v μ1 F1 H1 e s1 o => hk x s v μ1 F1 H1 e s1 o h
  | er e s => exact h
  | no => exact h
section
variable {X : Cx} {C : Cn} {k j : Nat} {x : Str} {p pos : Pos} {e : Expr} {es : List Expr} {mas : En → Sto → Res (List Vl)} {sem : Fs}
theorem s_call (B : Bd k X C) (G : Kn X.prog X.w X.K X.mg X.base x j sem) (hj : j ≤ k) (hg : Gl X x) (ha : PA X (e :: es) (tAs C mas)) (hdb : (x == ("__debug__" : Str)) = false := by decide)
    (he : starEach (e :: es) X.env = (false, eval e X.env) :: starEach es X.env := by rfl) (hpl : (backTo pos (starEach es X.env)).any (·.1) = false := by rfl) : PE X (.Call (.Name x p) (e :: es) [] pos) (tM C (mCall sem mas)) := by
  obtain ⟨f, fd, ps, hm, hkp, hb, G⟩ := G
  obtain ⟨⟨K, w⟩, mg, W, σC⟩ := C
  obtain rfl : K = X.K := B.hK
  obtain rfl : w = X.w := B.hw
  obtain rfl : mg = X.mg := B.hm
  refine ⟨fun pins s σ H Q I ⟨ρ, st, μ, F, h1, h2, h3⟩ => ?_⟩
  refine wpAny_Call_Name_kw (ld_glob I hg hm ?_ hdb)
  refine PySem.W.callWith_K (h₀ := X.base) I.ok.mod.kin hkp (thn (ha.run pos pins s σ H (fun vs H1 => spF ⟨X.K, X.w⟩ X.mg sem vs H1 Q fun cls d H => W cls d σ H) I ⟨ρ, st, μ, F, h1, h2, Post.bindA0 h3 fun xs s1 vs μ1 F1 H1 x1 r1 k1 h4 => ?_⟩) fun us s1 ⟨vs, H1, I1, r, q⟩ => ⟨I1.kIn, ?_⟩) he hpl
  · exact ⟨xs, s1, μ1, F1, k1, r1, call_post h2 x1 h4⟩
  · have hl : us.length = ps.length := by rw [← r.length]; exact G.len _ _ _ _ q
    refine wpAny_call (codeAny_mono (G.run X.A X.stack s1 H1 ⟨us, []⟩ us vs Q (fun cls d H => W cls d σ H) (B.rm.mono hj) I1.env0 (by have hb' := hb s1 us I1.kIn (by simpa using hl); rw [List.append_nil] at hb'; exact hb') r q) fun r' s' hq => ?_)
    cases r' with
    | error e => exact B.ps σ pins H1 s1 e s' I1 hq
    | ok fl =>
      cases fl with
      | ret u => exact I1.after hq
      | next => exact False.elim hq
      | brk => exact False.elim hq
      | cont => exact False.elim hq
theorem s_call0 (B : Bd k X C) (G : Kn X.prog X.w X.K X.mg X.base x j sem) (hj : j ≤ k) (hg : Gl X x) (hdb : (x == ("__debug__" : Str)) = false := by decide) : PE X (.Call (.Name x p) [] [] pos) (tM C (mCall sem aNil)) := by
  obtain ⟨f, fd, ps, hm, hkp, hb, G⟩ := G
  obtain ⟨⟨K, w⟩, mg, W, σC⟩ := C
  obtain rfl : K = X.K := B.hK
  obtain rfl : w = X.w := B.hw
  obtain rfl : mg = X.mg := B.hm
  refine ⟨fun pins s σ H Q I ⟨ρ, st, μ, F, h1, h2, h3⟩ => ?_⟩
  refine wpAny_Call_Name_kw (ld_glob I hg hm ?_ hdb)
  have q : spF ⟨X.K, X.w⟩ X.mg sem [] H Q (fun cls d H => W cls d σ H) := ⟨[], st, μ, F, .nil, h2, call_post h2 Ext.refl h3⟩
  have hl : ([] : List Value).length = ps.length := by rw [← G.len _ _ _ _ q]; rfl
  refine PySem.W.callWith_K0 I.kIn hkp (wpAny_call (codeAny_mono (G.run X.A X.stack s H ⟨[], []⟩ [] [] Q (fun cls d H => W cls d σ H) (B.rm.mono hj) I.env0 (hb s [] I.kIn (by simpa using hl)) .nil q) fun r' s' hq => ?_))
  cases r' with
  | error e => exact B.ps σ pins H s e s' I hq
  | ok fl =>
    cases fl with
    | ret u => exact I.after hq
    | next => exact False.elim hq
    | brk => exact False.elim hq
    | cont => exact False.elim hq
end

/-! ### a def of the text means its body -/
def bodyF (n k : Nat) (b : Sv) : Fs := fun args st => if args.length = k then match b (args.map some ++ List.replicate (n - args.length) none) st with
    | .rt r s => .ok r s
    | .nx _ s => .ok (.d .none) s
    | .er e s => .er e s
    | _ => .no
  else .no
section
variable {P : Program} {w : World} {K : PySem.W.Frag} {mg : Str → Option Value} {base : Heap} {k : Nat} {x : Str} {N ps : List Str} {sb : Sv}
theorem VokAll.length {K : Kw} {F : Hp} {μ : List Addr} : ∀ {xs : List Vl} {vs : List V}, VokAll K F μ xs vs → xs.length = vs.length
  | _, _, .nil => rfl
  | _, _, .cons _ r => by rw [List.length_cons, List.length_cons, VokAll.length r]
theorem start_ok {K : Kw} {F : Hp} {μ : List Addr} {args : List Vl} {vs : List V} (N : List Str) (h : VokAll K F μ args vs) : Eok K F μ (args.map some ++ List.replicate (N.length - args.length) none) (L2.start N vs) := by
  have hl := h.length
  refine ⟨by unfold L2.start; simp [hl], fun i y e => ?_⟩
  unfold L2.start
  by_cases hi : i < args.length
  · rw [List.getElem?_append_left (by simpa using hi), List.getElem?_map] at e
    rw [List.getElem?_append_left (by rw [List.length_map, ← hl]; exact hi), List.getElem?_map]
    have key : ∀ {xs : List Vl} {vs : List V} {i : Nat} {y : Vl}, VokAll K F μ xs vs → xs[i]? = some y → ∃ v, vs[i]? = some v ∧ Vok K F μ y v := by
      intro xs vs i y h e
      induction h generalizing i with
      | nil => simp at e
      | cons h1 r ih =>
        cases i with
        | zero => simp at e; subst e; exact ⟨_, rfl, h1⟩
        | succ i =>
          obtain ⟨v, k1, k2⟩ := ih (by simpa using e)
          exact ⟨v, by simpa using k1, k2⟩
    cases q : args[i]? with
    | none => rw [q] at e; cases e
    | some z =>
      rw [q] at e; cases e
      obtain ⟨v, k1, k2⟩ := key h q
      exact ⟨v, by rw [k1]; rfl, k2⟩
  · rw [List.getElem?_append_right (by simpa using hi), List.getElem?_replicate] at e
    split at e <;> cases e
theorem fn_of {st : Stmt} {f : Addr} {fd : FuncData} (F : Fun K x x st f fd) (S : FnScope N ps (defScope st))
    (body : ∀ (cdv : Value) (A : Around) (outer : List Env) (s : Shared) (H : Hp) (E : XK), Bd k (cxOf (L2.CX P w) P w K mg base N x (defScope st) f cdv A outer s H E) (Cn.ofE ⟨K, w⟩ mg E) →
      PSs (cxOf (L2.CX P w) P w K mg base N x (defScope st) f cdv A outer s H E) (defBody st) (tS (Cn.ofE ⟨K, w⟩ mg E) sb)) : FnC P w K mg base (k + 1) f fd ps (bodyF N.length ps.length sb) := by
  obtain ⟨oc, od, kV, doc, pm, an, cdv, ct, osl, rfl, lk, hcd⟩ := F.ex
  have hlen : ∀ vs H Q E, spF ⟨K, w⟩ mg (bodyF N.length ps.length sb) vs H Q E → vs.length = ps.length := fun vs H Q E ⟨args, st, μ, F, a, b, c⟩ => by
    unfold bodyF at c
    by_cases hl : args.length = ps.length
    · rw [← a.length, hl]
    · rw [if_neg hl] at c; exact False.elim c
  refine ⟨hlen, fun A outer s H args us vs Q E hr e0 hbd r hsp => ?_⟩
  have hl := hlen _ _ _ _ hsp
  have KX : K.In s.heap := e0.mod.kin.keeps fun b o e => (e0.bs b o e).1
  have lim : s.heap.NoLimit := e0.mod.nolimit.keeps fun b o e => (e0.bs b o e).1
  have hkind : ∀ y ∈ ps.zip us, (defScope st).names.lookup y.1 = some .local ∨ ((defScope st).names.lookup y.1 = some .cell ∧ ((cellsFrom (s.heap.objs.size + 1) (defScope st).names []).lookup y.1).isSome = true) := fun ⟨n, v⟩ hy =>
    (S.par n (List.of_mem_zip hy).1).imp id fun q => ⟨q, PySem.W.cellsFrom_some _ _ _ (.inl q)⟩
  refine codeAny_call_function hr.room.depth (KX _ _ lk) rfl S.co S.gen rfl (PySem.W.codeRec_of KX hcd) (hbd _ _ _ _ ?_)
  refine wpAny_newFunctionEnv_cells S.kind hkind fun env he s1 y => ?_
  subst he
  refine ⟨lim.keeps y.toInCall.keep, codeAny_func ?_⟩
  have hr2 : Rm k (A.deeper (PyProof.Rows.envOfC x (defScope st) s.heap.objs.size f cdv)) := ⟨hr.room.deeper _, hr.gd⟩
  have I : Inv (cxOf (L2.CX P w) P w K mg base N x (defScope st) f cdv A outer s H E) [] (L2.start N vs) H s1 := inv_start S hr.room.hd e0 hl r y
  have bd : Bd k (cxOf (L2.CX P w) P w K mg base N x (defScope st) f cdv A outer s H E) (Cn.ofE ⟨K, w⟩ mg E) := ⟨rfl, S.nd, passes_of rfl, fun σ pins H s e s' I c => passes_call (takes_of rfl rfl rfl rfl) (fun _ _ _ _ h => h) pins σ H s e s' I c, rfl, rfl, rfl, hr2, takes_of rfl rfl rfl rfl⟩
  obtain ⟨as, st0, μ, F0, a, b, c⟩ := hsp
  have hal : as.length = ps.length := by rw [a.length, hl]
  unfold bodyF at c
  rw [if_pos hal] at c
  refine wpAny_mono ((body cdv A outer s H E bd).run [] s1 (L2.start N vs) H { nx := fun _ H' => Q .non H', rt := Q } I ⟨_, st0, μ, F0, start_ok N a, b, ?_⟩) (fun fl s' hs => ?_) fun e s' hs => hs
  · show PostS _ _ μ F0 H (sb (as.map some ++ List.replicate (N.length - as.length) none) st0)
    cases q : sb (as.map some ++ List.replicate (N.length - as.length) none) st0 with
    | rt r s => simp only [q] at c; exact c
    | nx ρ s => simp only [q] at c; exact fun σ' μ' F' H' x2 r2 _ => c .non μ' F' H' ⟨x2, r2, .non, fun _ e => nomatch e⟩
    | er e s => simp only [q] at c; exact c
    | bk ρ s => simp only [q] at c; exact False.elim c
    | ct ρ s => simp only [q] at c; exact False.elim c
    | no => simp only [q] at c; exact False.elim c
  · have fin : ∀ {σ' : St} {H' : Hp} {v : V} {u : Value}, Inv (cxOf (L2.CX P w) P w K mg base N x (defScope st) f cdv A outer s H E) [] σ' H' s' → RelV v u → Q v H' → CE outer P w H s Q u s' :=
      fun {σ' H' v u} J rv q => ⟨v, H', J.os, J.bare, J.base, J.hok, rv, q⟩
    cases fl with
    | ret u => obtain ⟨v, σ', H', J, rv, q⟩ := hs; exact fin J rv q
    | next => obtain ⟨σ', H', J, q⟩ := hs; exact fin (v := V.non) (u := Value.none) J rfl q
    | brk => obtain ⟨_, _, _, q⟩ := hs; exact False.elim q
    | cont => obtain ⟨_, _, _, q⟩ := hs; exact False.elim q
end
end Cp
/-! Cpe: the end of a law. -/
namespace Cp
open PySem L2
section
open PySem.W PyProof.Rows
variable {P : Program} {w : World} {K : Frag} {mg mb : Str → Option Value} {k : Nat} {fa a : Addr} {fd : FuncData} {x : Str} {sem : Fs} {s0 : Shared} {vs : List Value} {ns : List Int}
/-- the law's own call where at most the script is tracked -/
theorem law_core (KX : K.In s0.heap) (hns : s0.heap.Ns mainGlobals mg) (hb : s0.heap.Ns builtinsNs mb) (hbb : ∀ y : Str, y ≠ "__name__" → mb y = bootBuiltins y) (hlim : s0.heap.NoLimit) (hg : s0.gens = #[])
    (ha : s0.heap.get? a = some { cls := .type "list", data := .seq vs.toArray }) (hr : Rm k callerA)
    (F : ∀ base : Heap, K.In base → base.Ns mainGlobals mg → FnC P w K mg base k fa fd [x] sem) (hbind : ∀ (s : Shared) (u : Value), BindsTo s fd ⟨[u], []⟩ [(x, u)])
    (H : Hp) (hO : Only H) (hS : SqL K H a (ns.map V.int)) (hok : HOk P w H s0.heap) (hA : ∀ b, H b ≠ none → b = a) (hK : H a ≠ none → K.lookup a = none) (hsem : ∃ st, sem [.s ns] [] = .ok (.d (.bool true)) st) :
    codeAny (model P w) callerA (.call (.ref fa) ⟨[.ref a], []⟩) (fun r s' => r = .ok (.ret (.bool true)) ∧ OldK s0.heap s'.heap ∧ s'.os = s0.os ∧ AllBare s'.gens) s0 := by
  have isA : ∀ {b : Addr} {u : HO}, H b = some u → b = a := fun {b u} q => hA b fun z => by rw [z] at q; cases q
  have notDict : ∀ {b : Addr} {o : Obj} {es : Array DictEntry} {n : Nat}, s0.heap.get? b = some o → o.data = .dict es n → H b = none := fun {b o es n} e d => by
    cases q : H b with
    | none => rfl
    | some u =>
      have := isA q
      subst this
      rw [ha] at e; cases e
      cases (show Data.seq vs.toArray _ = Data.dict es n from d)
  have same : ∀ {b : Addr} {m : Str → Option Value}, s0.heap.Ns b m → (hidT s0.heap H).Ns b m := fun ⟨o, es, n, e, d, r⟩ => ⟨o, es, n, hidT_get e (notDict e d), d, r⟩
  have inB : K.In (hidT s0.heap H) := fun b o e => hidT_get (KX b o e) (by
    cases q : H b with
    | none => rfl
    | some u =>
      have := isA q
      subst this
      rw [hK (by rw [q]; exact fun z => by cases z)] at e
      cases e)
  have M : Mod K mg (hidT s0.heap H) := ⟨inB, same hns, ⟨mb, same hb, hbb⟩, let ⟨mc, h1, h2⟩ := hlim; ⟨mc, same h1, h2⟩⟩
  have none0 : ∀ b : Addr, b ∉ frs [] := fun b z => by cases z
  have e0 : Env0 P w K mg (hidT s0.heap H) callerA [] s0 H := ⟨rfl, M, fun b o e => of_hidT e, Nat.le_of_eq (hidT_size _ _), trivial, fun b z => absurd z (none0 b), hok, .of_eq hg⟩
  obtain ⟨st, hsem⟩ := hsem
  have sp : spF ⟨K, w⟩ mg sem [.ref a] H (fun v _ => v = .bl true) (fun _ _ _ => False) := by
    refine ⟨[.s ns], [], [], H, .cons ⟨a, rfl, hS⟩ .nil, ⟨List.nodup_nil, rfl, (fun i b c z => by simp at z), Same.refl H, (fun i c z => by simp at z)⟩, ?_⟩
    rw [hsem]
    intro v μ' F' H' o
    cases (show Dq ⟨K, w⟩ F' v (.bool true) from o.rok)
    rfl
  refine codeAny_mono ((F _ inB (same hns)).run callerA [] s0 H ⟨[.ref a], []⟩ [.ref a] [.ref a] _ _ hr e0 (hbind s0 (.ref a)) (.cons rfl .nil) sp) fun r s' h => ?_
  cases r with
  | error e =>
    obtain ⟨_, _, _, _, _, _, _, _, _, _, _, _, z⟩ := h
    exact z.elim
  | ok fl =>
    cases fl with
    | ret u =>
      obtain ⟨v, H', os, bare, un, hok', rv, q⟩ := h
      cases (show v = .bl true from q)
      cases (show u = Value.bool true from rv)
      refine ⟨rfl, OldK.of_keep fun b o e => ?_, os, bare⟩
      cases q : H b with
      | none => exact un.keep b o e q (none0 b) (by simp)
      | some u =>
        rcases hO b with z | ⟨ob, xs, z⟩
        · rw [q] at z; cases z
        · obtain ⟨e1, _⟩ := hok b _ z
          obtain ⟨e2, _⟩ := hok' b _ (un.frzs b ob _ z)
          rw [e] at e1; cases e1
          exact e2
    | next => exact False.elim h
    | brk => exact False.elim h
    | cont => exact False.elim h
theorem law_any (KX : K.In s0.heap) (hns : s0.heap.Ns mainGlobals mg) (hb : s0.heap.Ns builtinsNs mb) (hbb : ∀ y : Str, y ≠ "__name__" → mb y = bootBuiltins y) (hlim : s0.heap.NoLimit) (hg : s0.gens = #[])
    (ha : s0.heap.get? a = some { cls := .type "list", data := .seq vs.toArray }) (hi : IntsAre vs ns) (hl : ns.length ≤ sizeLine) (hr : Rm k callerA)
    (F : ∀ base : Heap, K.In base → base.Ns mainGlobals mg → FnC P w K mg base k fa fd [x] sem) (hbind : ∀ (s : Shared) (u : Value), BindsTo s fd ⟨[u], []⟩ [(x, u)]) (hsem : ∃ st, sem [.s ns] [] = .ok (.d (.bool true)) st) :
    codeAny (model P w) callerA (.call (.ref fa) ⟨[.ref a], []⟩) (fun r s' => r = .ok (.ret (.bool true)) ∧ OldK s0.heap s'.heap ∧ s'.os = s0.os ∧ AllBare s'.gens) s0 := by
  have rv := vals_ints hi
  have hl2 : (ns.map V.int).length ≤ sizeLine := by rw [List.length_map]; exact hl
  have go := law_core (ns := ns) KX hns hb hbb hlim hg ha hr F hbind
  cases hk : K.lookup a with
  | some o =>
    have e := KX a o hk
    rw [ha] at e; cases e
    exact go (fun _ => none) (fun _ => .inl rfl) (.inr ⟨_, vs.toArray, _, hk, rfl, rfl, rfl, by rw [List.size_toArray, ← rv.length]; exact hl2, by simpa using rv⟩) (fun b u z => by cases (show (none : Option HO) = some u from z)) (fun b z => absurd rfl z) (fun z => absurd rfl z) hsem
  | none =>
    have at1 : (fun b => if b = a then some (HO.frz { cls := .type "list", data := .seq vs.toArray } (.lst (ns.map V.int))) else none) a = some (HO.frz { cls := .type "list", data := .seq vs.toArray } (.lst (ns.map V.int))) := if_pos rfl
    have at2 : ∀ {b u}, (fun b => if b = a then some (HO.frz { cls := .type "list", data := .seq vs.toArray } (.lst (ns.map V.int))) else none) b = some u → b = a ∧ u = HO.frz { cls := .type "list", data := .seq vs.toArray } (.lst (ns.map V.int)) := fun {b u} z => by
      by_cases h : b = a
      · exact ⟨h, by have z' := (if_pos h).symm.trans z; cases z'; rfl⟩
      · have z' := (if_neg h).symm.trans z; cases z'
    refine go (fun b => if b = a then some (.frz { cls := .type "list", data := .seq vs.toArray } (.lst (ns.map V.int))) else none) (fun b => ?_) (.inl (.inr ⟨_, at1⟩)) (fun b u z => ?_) (fun b z => ?_) (fun _ => hk) hsem
    · by_cases h : b = a
      · exact .inr ⟨_, _, if_pos h⟩
      · exact .inl (if_neg h)
    · obtain ⟨rfl, rfl⟩ := at2 z
      exact ⟨ha, hl2, vs, _, rv, ha⟩
    · by_cases h : b = a
      · exact h
      · exact absurd (if_neg h) z
/-- the goal behind the head -/
theorem law_walk {l : OpenLaw} {n k : Nat} {q : Program} {loose : List Str} {XP : (Str → Option Value) → Heap → Prop} {YP : World → Heap → Prop} {d : DefRec} {K : Params → Frag} {x : Str} {sem : Fs}
    (hn : l.most = some n) (hn2 : n ≤ sizeLine) (hdf : d.params.defaults = []) (hr : Rm k callerA) (hY : ∀ (w : World) (h : Heap), YP w h → (K w.params).In h)
    (F : ∀ (w : World) (mg : Str → Option Value) (fa : Addr) (h : Heap), (K w.params).In h → h.Ns mainGlobals mg → mg d.name = some (.ref fa) →
      ∃ fd : FuncData, (∀ (s : Shared) (u : Value), BindsTo s fd ⟨[u], []⟩ [(x, u)]) ∧ ∀ base : Heap, (K w.params).In base → base.Ns mainGlobals mg → FnC l.prog w (K w.params) mg base k fa fd [x] sem)
    (hsem : ∀ ns : List Int, ns.length ≤ n → ∃ st, sem [.s ns] [] = .ok (.d (.bool true)) st) : WalkO q loose XP YP l.row.toRowW d [] (fun f vs => PySem.call f vs) := by
  refine Att.attach_call hn hdf fun w s₀ s₁ mg mb fa o pm cd doc a vs ns G Y ho hd hcd hmg hobj hints hlen hg => ?_
  obtain ⟨fd, hb, hF⟩ := F w mg fa _ (hY w _ Y) G.T.g hmg
  exact law_any (hY w _ Y) G.T.g G.T.b G.T.builtins G.T.nolimit hg hobj hints (Nat.le_trans hlen hn2) hr hF hb (hsem ns hlen)
theorem law_room {k : Nat} (h : k ≤ 230) : Rm k callerA := ⟨⟨rfl, by show 1 + 300 + 3 * k + 5 < 1000; omega, by show 4 + 16 * k + 200 < 9900; omega⟩, rfl⟩
end
end Cp
/-! Cpo: the rules by Python's words, defs by the head's facts. -/
namespace Cp
open PySem L2
section
open PySem.Spec PyProof.Rows
/-- a tuple times one, times nothing -/
theorem tuple_mul1 (l : Addr) (items : Array Value) (n : Nat) (dd : Option Addr) (sl : Array (Option Value)) (u : Tok) :
    Meets (Builtin.«tuple.__mul__» ⟨[.ref l, .int 1 u], []⟩) (fun _ R s => s.heap.get? l = some { cls := .type "tuple", dict := dd, data := .seq items n, slots := sl } ∧ R (.ok (.ret (Value.ref l))) s) :=
  .of_wp fun prog w A R s h => by
    obtain ⟨hp, g, d, tk, os⟩ := s
    obtain ⟨hl, h⟩ := h
    have f1 := AutoSeq1.idx_int
    wp_walk using wpAny_loadPart' hl
    have c1 : ((items.isEmpty || (1 : Int) == 1) = true) := by rw [Bool.or_eq_true]; exact .inr rfl
    repeat (first
      | (refine wpAny_ite_false (decide_eq_false (by decide)) ?_; wp_walk using wpAny_loadPart' hl)
      | (refine wpAny_ite_true (decide_eq_true c1) ?_; wp_walk using wpAny_loadPart' hl))
    exact ⟨_, rfl, h⟩
theorem tuple_mul0 (l : Addr) (items : Array Value) (n : Nat) (dd : Option Addr) (sl : Array (Option Value)) (x : Int) (u : Tok) (c0 : (decide (x < -(2 ^ 63)) || decide (x ≥ 2 ^ 63)) = false) (c1 : (items.isEmpty || x == 1) = false) (c2 : (decide (x ≤ 0) || items.isEmpty) = true) :
    Meets (Builtin.«tuple.__mul__» ⟨[.ref l, .int x u], []⟩) (fun _ R s => s.heap.get? l = some { cls := .type "tuple", dict := dd, data := .seq items n, slots := sl } ∧
      R (.ok (.ret (Value.ref s.heap.objs.size))) { s with heap := s.heap.push { cls := Value.type "tuple", data := Data.seq #[] }, toks := s.toks }) :=
  .of_wp fun prog w A R s h => by
    obtain ⟨hp, g, d, tk, os⟩ := s
    obtain ⟨hl, h⟩ := h
    have f1 := AutoSeq1.idx_int
    wp_walk using wpAny_loadPart' hl
    repeat (first
      | (refine wpAny_ite_false (decide_eq_false (by rw [c0]; exact Bool.false_ne_true)) ?_; wp_walk using wpAny_loadPart' hl)
      | (refine wpAny_ite_false (decide_eq_false (by rw [c1]; exact Bool.false_ne_true)) ?_; wp_walk using wpAny_loadPart' hl)
      | (refine wpAny_ite_true (decide_eq_true c2) ?_; wp_walk using wpAny_loadPart' hl))
    exact ⟨_, rfl, h⟩
def rRepT2 (K : PySem.W.Frag) : R2 := fun x y H Q => ∃ l k xs, x = .ref l ∧ y = .int k ∧ SqT K H l xs ∧ xs ≠ [] ∧ -1000 ≤ k ∧ k ≤ 1 ∧ xs.length ≤ 1000 ∧ (k = 1 → Q (.ref l) H) ∧ (k ≤ 0 → ∀ p, H p = none → Q (.ref p) (upd H p (.tup [])))
theorem op_repT2 {X : Cx} : OpR X (binaryOp .Mult) (rRepT2 X.K) := by
  intro pins s σ H x y v u Q I rx ry h
  obtain ⟨l, k, xs, rfl, rfl, hT, hne, h1, h2, hz, q1, q0⟩ := h
  cases rx
  obtain ⟨t, rfl⟩ := ry
  obtain ⟨its, r, ⟨⟨cls, dd, data, sl⟩, ho, hc, n, hd⟩, hs⟩ := I.tuple hT
  simp only at hc hd
  subst hc hd
  have hle : its.length = xs.length := r.length.symm
  have hn : its ≠ [] := fun e => hne (by
    rw [e] at hle
    exact List.eq_nil_of_length_eq_zero hle.symm)
  have hi : its.toArray.isEmpty = false := by
    cases its with
    | nil => exact absurd rfl hn
    | cons a b => rfl
  by_cases hk : k = 1
  · subst hk
    exact wpAny_binaryOp_repeat_ref (T := "tuple") (U := "int") (by decide) ⟨_, ho, rfl⟩ (fun s' => typeIs_int s' 1 t) noFill_tuple_mul F.fills_int_mul F.slot_int_rmul repeat_tuple F.slot_int_index.lookup
      (call_meets F.slot_int_rmul (typeIs_int s 1 t) F.entry_int_rmul (F.args_int_rmul_2 _ _) (int_rmul_tuple 1 t l its.toArray n dd sl)
        ⟨ho, rfl, ⟨_, ho, rfl⟩, call_meets F.slot_tuple_mul ⟨_, ho, rfl⟩ F.entry_tuple_mul (F.args_tuple_mul_2 _ _) (tuple_mul1 l its.toArray n dd sl t) ⟨ho, .ref l, H, I, rfl, q1 rfl⟩⟩)
  · have c0 : (decide (k < -(2 ^ 63)) || decide (k ≥ 2 ^ 63)) = false := by
      rw [decide_eq_false (by omega), decide_eq_false (by omega)] <;> rfl
    have c1 : (its.toArray.isEmpty || k == 1) = false := by
      rw [hi, Bool.false_or]
      exact beq_eq_false_iff_ne.mpr hk
    have c2 : (decide (k ≤ 0) || its.toArray.isEmpty) = true := by
      rw [decide_eq_true (by omega)]; rfl
    refine wpAny_binaryOp_repeat_ref (T := "tuple") (U := "int") (by decide) ⟨_, ho, rfl⟩ (fun s' => typeIs_int s' k t) noFill_tuple_mul F.fills_int_mul F.slot_int_rmul repeat_tuple F.slot_int_index.lookup
      (call_meets F.slot_int_rmul (typeIs_int s k t) F.entry_int_rmul (F.args_int_rmul_2 _ _) (int_rmul_tuple k t l its.toArray n dd sl)
        ⟨ho, rfl, ⟨_, ho, rfl⟩, call_meets F.slot_tuple_mul ⟨_, ho, rfl⟩ F.entry_tuple_mul (F.args_tuple_mul_2 _ _) (tuple_mul0 l its.toArray n dd sl k t c0 c1 c2) ⟨ho, ?_⟩⟩)
    refine ⟨.ref s.heap.objs.size, _, I.laid (t' := s.toks) (o := .tup []) (fun b ob q => Heap.get?_push_of_some _ q) (Nat.le_refl _) ?_, rfl, q0 (by omega) _ (I.hok.fresh (Nat.le_refl _))⟩
    exact ⟨Nat.zero_le _, [], .nil, IsTup.new _ _⟩
end
section
variable {X : Cx} {C : Cn} {k j : Nat} {x : Str} {p pos apos : Pos} {e a b c : Expr} {es : List Expr} {m ma mb mc : Ev} {mas : En → Sto → Res (List Vl)}
def orF (f g : PyData → PyData → Option Rv) : PyData → PyData → Option Rv := fun a b => match f a b with
  | some z => some z
  | none => g a b
def orG (f g : PyData → PyData → Option Bool) : PyData → PyData → Option Bool := fun a b => match f a b with
  | some z => some z
  | none => g a b
/-- + -/
def fAdd : PyData → PyData → Option Rv
  | .int i, .int j => some (.d (.int (i + j)))
  | .str i, .str j => if i.length + j.length ≤ sizeLine then some (.d (.str (i ++ j))) else none
  | .tuple i, .tuple j => if i.length + j.length ≤ sizeLine then some (.d (.tuple (i ++ j))) else none
  | .list i, .list j => if i.length + j.length ≤ sizeLine then some (.n (.l (i ++ j))) else none
  | _, _ => none
theorem BinOk.of {r : R2} {f g : PyData → PyData → Option Rv} (h : BinOk C r f) (e : ∀ a b z, g a b = some z → f a b = some z) : BinOk C r g := fun a b res v u μ F H st Q s va vb q p => h a b res v u μ F H st Q s va vb (e a b res q) p
theorem s_add (ha : PE X a (tM C ma)) (hb : PE X b (tM C mb)) : PE X (.BinOp a .Add b pos) (tM C (mBin fAdd ma mb)) :=
  s_bin (op_add.or (op_add_str.or (op_catA.or op_cat))) (BinOk.of (fI0_ok.or (fCatS_ok.or (fCatT_ok.or fCatL_ok))) fun a b z h => by
    cases a <;> cases b <;> first | exact h | (simp only [fI, fCatS, fCatT, fCatL, fAdd, if_true] at h ⊢; first | exact h | (split at h <;> first | (cases h; done) | (cases h; simp [*])))) ha hb
theorem s_sub (ha : PE X a (tM C ma)) (hb : PE X b (tM C mb)) : PE X (.BinOp a .Sub b pos) (tM C (mBin (fI (fun _ _ => true) fun i j => i - j) ma mb)) := s_bin op_sub fI0_ok ha hb
def pMul (i j : Int) : Bool := decide (i.natAbs.log2 + j.natAbs.log2 < 1000000)
def repD (xs : List PyData) (k : Int) : List PyData := (List.replicate k.toNat xs).flatten
/-- * -/
def fMul : PyData → PyData → Option Rv
  | .int i, .int j => if pMul i j then some (.d (.int (i * j))) else none
  | .list xs, .int k => if -(2 ^ 63) ≤ k ∧ k < 2 ^ 63 ∧ xs.length * k.toNat ≤ sizeLine then some (.n (.l (repD xs k))) else none
  | .tuple xs, .int k => if xs ≠ [] ∧ -1000 ≤ k ∧ k ≤ 1000 ∧ xs.length ≤ 1000 then some (.d (.tuple (repD xs k))) else none
  | _, _ => none
theorem rep_dq {K : Kw} {F : Hp} {xs : List V} {ds : List PyData} (h : DqAll K F xs ds) (n : Nat) : DqAll K F (List.replicate n xs).flatten (List.replicate n ds).flatten := by
  induction n with
  | zero => exact .nil
  | succ n ih => rw [List.replicate_succ, List.replicate_succ, List.flatten_cons, List.flatten_cons]; exact h.app ih
theorem fMul_ok {K : PySem.W.Frag} : BinOk C (fun x y H Q => rI CMulW (fun i j => .int (i * j)) x y H Q ∨ rRep x y H Q ∨ rRepT K x y H Q ∨ rRepT2 K x y H Q) fMul := by
  intro a b res v u μ F H st Q s va vb e h
  unfold fMul at e
  split at e
  · split at e
    · rename_i hh
      cases e
      exact .inl ⟨_, _, va.int, vb.int, (by simpa [pMul, CMulW] using hh), fin_d s h (.int _)⟩
    · cases e
  · split at e
    · rename_i hh
      cases e
      obtain ⟨q, ys, rfl, q1, q2⟩ := va
      exact .inr (.inl ⟨q, _, ys, rfl, vb.int, q1, hh.1, hh.2.1, by rw [q2.length]; exact hh.2.2, fun z hz => fin_n s h hz ⟨_, rfl, rep_dq q2 _⟩⟩)
    · cases e
  · split at e
    · rename_i xs k hh
      cases e
      obtain ⟨q, ys, rfl, q1, q2⟩ := va.tup
      have ne : ys ≠ [] := fun z => hh.1 (by subst z; cases q2; rfl)
      have hln : ys.length ≤ 1000 := by rw [q2.length]; exact hh.2.2.2
      by_cases h2 : 2 ≤ k
      · exact .inr (.inr (.inl ⟨q, _, ys, rfl, vb.int, SqT.of (s.sub _ _ q1), ne, h2, hh.2.2.1, hln, fun z hz => fin_t s h hz (rep_dq q2 _)⟩))
      · refine .inr (.inr (.inr ⟨q, _, ys, rfl, vb.int, SqT.of (s.sub _ _ q1), ne, hh.2.1, by omega, hln, fun e1 => ?_, fun e0 z hz => ?_⟩))
        · subst e1
          have e : repD xs 1 = xs := by unfold repD; simp
          rw [e] at h
          exact fin_d s h (.tup q1 q2)
        · have e : repD xs k = [] := by unfold repD; rw [Int.toNat_of_nonpos e0]; rfl
          rw [e] at h
          exact fin_t s h hz .nil
    · cases e
  · cases e
theorem s_mul (ha : PE X a (tM C ma)) (hb : PE X b (tM C mb)) : PE X (.BinOp a .Mult b pos) (tM C (mBin fMul ma mb)) := s_bin (op_mulW.or (op_rep.or (op_repT.or op_repT2))) fMul_ok ha hb
def pDiv (_ j : Int) : Bool := decide (0 < j) && decide (j.natAbs.log2 < 9000)
theorem s_fdiv (ha : PE X a (tM C ma)) (hb : PE X b (tM C mb)) : PE X (.BinOp a .FloorDiv b pos) (tM C (mBin (fI pDiv fun i j => i / j) ma mb)) :=
  s_bin op_fdivW (fI_ok fun i j h => by simpa [pDiv, CDivW] using h) ha hb
def pPos (_ j : Int) : Bool := decide (0 < j)
theorem s_mod (ha : PE X a (tM C ma)) (hb : PE X b (tM C mb)) : PE X (.BinOp a .Mod b pos) (tM C (mBin (fI pPos fun i j => i % j) ma mb)) := s_bin op_mod (fI_ok fun i j h => of_decide_eq_true h) ha hb
def CPowW (i j : Int) : Prop := 0 ≤ j ∧ (Builtin.Int.intBits i : Int) * j ≤ 2 ^ 27
theorem op_powW : OpR X (binaryOp .Pow) (rI CPowW fun i j => .int (i ^ j.toNat)) := opI fun _ _ _ _ _ _ _ hc q => PyProof.Rows.pow_int hc.1 hc.2 q
def pPow (i j : Int) : Bool := decide (0 ≤ j) && decide ((Builtin.Int.intBits i : Int) * j ≤ 2 ^ 27)
theorem s_pow (ha : PE X a (tM C ma)) (hb : PE X b (tM C mb)) : PE X (.BinOp a .Pow b pos) (tM C (mBin (fI pPow fun i j => i ^ j.toNat) ma mb)) :=
  s_bin op_powW (fI_ok fun i j h => by unfold pPow at h; simp only [Bool.and_eq_true, decide_eq_true_eq] at h; exact ⟨h.1, h.2⟩) ha hb
def fNeg : PyData → Option PyData
  | .int i => some (.int (-i))
  | _ => none
def mNeg (m : Ev) : Ev := fun ρ st => (mV m ρ st).bind fun x s => match (view s x).bind fNeg with
  | some d => .ok (.d d) s
  | none => .no
theorem s_neg (ha : PE X a (tM C ma)) : PE X (.UnaryOp .USub a pos) (tM C (mNeg ma)) := (pe_un un_neg (pv_frz ha)).imp fun σ H Q ⟨ρ, st, μ, F, h1, h2, h3⟩ => ⟨ρ, st, μ, F, h1, h2, Post.bindV gE_lat h3 fun x s v μ1 F1 H1 x1 r1 k1 h4 => by
  cases q : view s x with
  | none => simp only [q, Option.bind] at h4; exact False.elim h4
  | some d =>
    cases d with
    | int i => simp only [q, Option.bind, fNeg] at h4; exact ⟨i, (view_ok r1 k1 q).int, fin_d r1 h4 (.int _)⟩
    | _ => simp only [q, Option.bind, fNeg] at h4; exact False.elim h4⟩
/-! ### comparisons: as a test, as a value -/
theorem t_eq (B : Bd k X C) (ha : PE X a (tM C ma)) (hb : PE X b (tM C mb)) : PT X (.Compare a [.Eq] [b] pos) (tT C (mCmp gEq ma mb)) := s_cmpT (op_eqD B.rm.hu) gEq_ok ha hb (nomark _)
theorem t_ne (B : Bd k X C) (ha : PE X a (tM C ma)) (hb : PE X b (tM C mb)) : PT X (.Compare a [.NotEq] [b] pos) (tT C (mCmp gNe ma mb)) := s_cmpT (op_neD B.rm.hu) gNe_ok ha hb (nomark _)
theorem t_lt (ha : PE X a (tM C ma)) (hb : PE X b (tM C mb)) : PT X (.Compare a [.Lt] [b] pos) (tT C (mCmp (gI fun i j => decide (i < j)) ma mb)) := s_cmpT op_lt gI_ok ha hb (nomark _)
theorem t_le (ha : PE X a (tM C ma)) (hb : PE X b (tM C mb)) : PT X (.Compare a [.LtE] [b] pos) (tT C (mCmp (gI fun i j => decide (i ≤ j)) ma mb)) := s_cmpT op_le gI_ok ha hb (nomark _)
theorem t_gt (ha : PE X a (tM C ma)) (hb : PE X b (tM C mb)) : PT X (.Compare a [.Gt] [b] pos) (tT C (mCmp (gI fun i j => decide (j < i)) ma mb)) := s_cmpT op_gt gI_ok ha hb (nomark _)
theorem t_ge (ha : PE X a (tM C ma)) (hb : PE X b (tM C mb)) : PT X (.Compare a [.GtE] [b] pos) (tT C (mCmp (gI fun i j => decide (j ≤ i)) ma mb)) := s_cmpT op_ge gI_ok ha hb (nomark _)
theorem t_isN (ha : PE X a (tM C ma)) (hb : PE X b (tM C mb)) : PT X (.Compare a [.Is] [b] pos) (tT C (mCmp gIsN ma mb)) := s_cmpT op_isN gIsN_ok ha hb (nomark _)
theorem t_notN (ha : PE X a (tM C ma)) (hb : PE X b (tM C mb)) : PT X (.Compare a [.IsNot] [b] pos) (tT C (mCmp gNotN ma mb)) := s_cmpT op_notN gNotN_ok ha hb (nomark _)
theorem t_isB (ha : PE X a (tM C ma)) (hb : PE X b (tM C mb)) : PT X (.Compare a [.Is] [b] pos) (tT C (mCmp gIsB ma mb)) := s_cmpT op_isBl gIsB_ok ha hb (nomark _)
theorem t_notB (ha : PE X a (tM C ma)) (hb : PE X b (tM C mb)) : PT X (.Compare a [.IsNot] [b] pos) (tT C (mCmp gNotB ma mb)) := s_cmpT op_notBl gNotB_ok ha hb (nomark _)
theorem t_in (ha : PE X a (tM C ma)) (hb : PE X b (tM C mb)) (hm : behindInMarks .In b = false) : PT X (.Compare a [.In] [b] pos) (tT C (mCmp (gIn false) ma mb)) := s_cmpT op_in_seq gIn_ok ha hb hm
theorem t_notIn (ha : PE X a (tM C ma)) (hb : PE X b (tM C mb)) (hm : behindInMarks .NotIn b = false) : PT X (.Compare a [.NotIn] [b] pos) (tT C (mCmp (gIn true) ma mb)) := s_cmpT op_notIn_seq gIn_ok ha hb hm
theorem v_eq (B : Bd k X C) (ha : PE X a (tM C ma)) (hb : PE X b (tM C mb)) : PE X (.Compare a [.Eq] [b] pos) (tM C (bV (mCmp gEq ma mb))) := s_cmp (op_eqD B.rm.hu) gEq_ok ha hb (nomark _)
theorem v_ne (B : Bd k X C) (ha : PE X a (tM C ma)) (hb : PE X b (tM C mb)) : PE X (.Compare a [.NotEq] [b] pos) (tM C (bV (mCmp gNe ma mb))) := s_cmp (op_neD B.rm.hu) gNe_ok ha hb (nomark _)
theorem v_lt (ha : PE X a (tM C ma)) (hb : PE X b (tM C mb)) : PE X (.Compare a [.Lt] [b] pos) (tM C (bV (mCmp (gI fun i j => decide (i < j)) ma mb))) := s_cmp op_lt gI_ok ha hb (nomark _)
theorem v_le (ha : PE X a (tM C ma)) (hb : PE X b (tM C mb)) : PE X (.Compare a [.LtE] [b] pos) (tM C (bV (mCmp (gI fun i j => decide (i ≤ j)) ma mb))) := s_cmp op_le gI_ok ha hb (nomark _)
theorem v_gt (ha : PE X a (tM C ma)) (hb : PE X b (tM C mb)) : PE X (.Compare a [.Gt] [b] pos) (tM C (bV (mCmp (gI fun i j => decide (j < i)) ma mb))) := s_cmp op_gt gI_ok ha hb (nomark _)
theorem v_ge (ha : PE X a (tM C ma)) (hb : PE X b (tM C mb)) : PE X (.Compare a [.GtE] [b] pos) (tM C (bV (mCmp (gI fun i j => decide (j ≤ i)) ma mb))) := s_cmp op_ge gI_ok ha hb (nomark _)
theorem v_isN (ha : PE X a (tM C ma)) (hb : PE X b (tM C mb)) : PE X (.Compare a [.Is] [b] pos) (tM C (bV (mCmp gIsN ma mb))) := s_cmp op_isN gIsN_ok ha hb (nomark _)
theorem v_notN (ha : PE X a (tM C ma)) (hb : PE X b (tM C mb)) : PE X (.Compare a [.IsNot] [b] pos) (tM C (bV (mCmp gNotN ma mb))) := s_cmp op_notN gNotN_ok ha hb (nomark _)
theorem v_isB (ha : PE X a (tM C ma)) (hb : PE X b (tM C mb)) : PE X (.Compare a [.Is] [b] pos) (tM C (bV (mCmp gIsB ma mb))) := s_cmp op_isBl gIsB_ok ha hb (nomark _)
theorem v_notB (ha : PE X a (tM C ma)) (hb : PE X b (tM C mb)) : PE X (.Compare a [.IsNot] [b] pos) (tM C (bV (mCmp gNotB ma mb))) := s_cmp op_notBl gNotB_ok ha hb (nomark _)
theorem v_in (ha : PE X a (tM C ma)) (hb : PE X b (tM C mb)) (hm : behindInMarks .In b = false) : PE X (.Compare a [.In] [b] pos) (tM C (bV (mCmp (gIn false) ma mb))) := s_cmp op_in_seq gIn_ok ha hb hm
theorem v_notIn (ha : PE X a (tM C ma)) (hb : PE X b (tM C mb)) (hm : behindInMarks .NotIn b = false) : PE X (.Compare a [.NotIn] [b] pos) (tM C (bV (mCmp (gIn true) ma mb))) := s_cmp op_notIn_seq gIn_ok ha hb hm
/-! ### built-in functions -/
abbrev NA (X : Cx) (es : List Expr) (pos : Pos) : Prop := (backTo pos (starEach es X.env)).any (·.1) = false
theorem k_len (B : Bd k X C) (hg : Gl X "len") (hm : X.mg "len" = none) (ha : PA X [a] (tAs C mas)) (he : starEach [a] X.env = (false, eval a X.env) :: starEach [] X.env := by rfl) (hpl : NA X [] pos := by rfl) : PE X (.Call (.Name "len" p) [a] [] pos) (tM C (mCal gLen mas)) :=
  s_callB call_len (gLen_ok B.hK) hg hm boot_len ha (by decide) (by decide) he hpl
theorem k_abs (hg : Gl X "abs") (hm : X.mg "abs" = none) (ha : PA X [a] (tAs C mas)) (he : starEach [a] X.env = (false, eval a X.env) :: starEach [] X.env := by rfl) (hpl : NA X [] pos := by rfl) : PE X (.Call (.Name "abs" p) [a] [] pos) (tM C (mCal (g1 fAbs) mas)) :=
  s_callB (c_abs (X := X) (C := C)).1 (c_abs (X := X) (C := C)).2 hg hm (by decide +kernel) ha (by decide) (by decide) he hpl
theorem k_max (B : Bd k X C) (hg : Gl X "max") (hm : X.mg "max" = none) (ha : PA X [a, b] (tAs C mas)) (he : starEach [a, b] X.env = (false, eval a X.env) :: starEach [b] X.env := by rfl) (hpl : NA X [b] pos := by rfl) : PE X (.Call (.Name "max" p) [a, b] [] pos) (tM C (mCal (gII fun i j => if j > i then j else i) mas)) :=
  s_callB (call_max2 B.cm) (gII_ok fun i j H Q q => ⟨i, j, rfl, q⟩) hg hm (by decide +kernel) ha (by decide) (by decide) he hpl
theorem k_min (B : Bd k X C) (hg : Gl X "min") (hm : X.mg "min" = none) (ha : PA X [a, b] (tAs C mas)) (he : starEach [a, b] X.env = (false, eval a X.env) :: starEach [b] X.env := by rfl) (hpl : NA X [b] pos := by rfl) : PE X (.Call (.Name "min" p) [a, b] [] pos) (tM C (mCal (gII fun i j => if j < i then j else i) mas)) :=
  s_callB (call_min2 B.cm) (gII_ok fun i j H Q q => ⟨i, j, rfl, q⟩) hg hm (by decide +kernel) ha (by decide) (by decide) he hpl
theorem k_sum (B : Bd k X C) (hg : Gl X "sum") (hm : X.mg "sum" = none) (ha : PA X [a] (tAs C mas)) (he : starEach [a] X.env = (false, eval a X.env) :: starEach [] X.env := by rfl) (hpl : NA X [] pos := by rfl) : PE X (.Call (.Name "sum" p) [a] [] pos) (tM C (mCal (g1 fSum) mas)) :=
  s_callB (cr_sum B.cm) fSum_ok hg hm (by decide +kernel) ha (by decide) (by decide) he hpl
theorem k_all (B : Bd k X C) (hg : Gl X "all") (hm : X.mg "all" = none) (ha : PA X [a] (tAs C mas)) (he : starEach [a] X.env = (false, eval a X.env) :: starEach [] X.env := by rfl) (hpl : NA X [] pos := by rfl) : PE X (.Call (.Name "all" p) [a] [] pos) (tM C (mCal (g1 fAll) mas)) :=
  s_callB (cr_all B.cm) fAll_ok hg hm (by decide +kernel) ha (by decide) (by decide) he hpl
theorem k_any (B : Bd k X C) (hg : Gl X "any") (hm : X.mg "any" = none) (ha : PA X [a] (tAs C mas)) (he : starEach [a] X.env = (false, eval a X.env) :: starEach [] X.env := by rfl) (hpl : NA X [] pos := by rfl) : PE X (.Call (.Name "any" p) [a] [] pos) (tM C (mCal (g1 fAny) mas)) :=
  s_callB (cr_any B.cm) fAny_ok hg hm (by decide +kernel) ha (by decide) (by decide) he hpl
theorem k_sorted (B : Bd k X C) (hg : Gl X "sorted") (hm : X.mg "sorted" = none) (ha : PA X [a] (tAs C mas)) (he : starEach [a] X.env = (false, eval a X.env) :: starEach [] X.env := by rfl) (hpl : NA X [] pos := by rfl) : PE X (.Call (.Name "sorted" p) [a] [] pos) (tM C (mCal (g1 fSorted) mas)) :=
  s_callB (cr_srt B.rm.hu) fSorted_ok hg hm (by decide +kernel) ha (by decide) (by decide) he hpl
theorem k_repr (B : Bd k X C) (hS : SysK X.K) (hg : Gl X "repr") (hm : X.mg "repr" = none) (ha : PA X [a] (tAs C mas)) (he : starEach [a] X.env = (false, eval a X.env) :: starEach [] X.env := by rfl) (hpl : NA X [] pos := by rfl) : PE X (.Call (.Name "repr" p) [a] [] pos) (tM C (mCal (g1 fRepr) mas)) :=
  s_callB (cr_repr hS B.rm.hu B.rm.gd) fRepr_ok hg hm (by decide +kernel) ha (by decide) (by decide) he hpl
theorem k_int (hg : Gl X "int") (hm : X.mg "int" = none) (ha : PA X [a] (tAs C mas)) (he : starEach [a] X.env = (false, eval a X.env) :: starEach [] X.env := by rfl) (hpl : NA X [] pos := by rfl) : PE X (.Call (.Name "int" p) [a] [] pos) (tM C (mCal (g1 fInt) mas)) :=
  s_callTy call_int1 fInt_ok hg hm (by decide +kernel) ha (by decide) (by decide) he hpl
theorem k_str (hg : Gl X "str") (hm : X.mg "str" = none) (ha : PA X [a] (tAs C mas)) (he : starEach [a] X.env = (false, eval a X.env) :: starEach [] X.env := by rfl) (hpl : NA X [] pos := by rfl) : PE X (.Call (.Name "str" p) [a] [] pos) (tM C (mCal (g1 fStr) mas)) :=
  s_callTy call_str_int fStr_ok hg hm (by decide +kernel) ha (by decide) (by decide) he hpl
theorem k_list (hg : Gl X "list") (hm : X.mg "list" = none) (ha : PA X [a] (tAs C mas)) (he : starEach [a] X.env = (false, eval a X.env) :: starEach [] X.env := by rfl) (hpl : NA X [] pos := by rfl) : PE X (.Call (.Name "list" p) [a] [] pos) (tM C (mCal (g1 fList) mas)) :=
  s_callTy call_list_of fList_ok hg hm (by decide +kernel) ha (by decide) (by decide) he hpl
theorem k_tuple (hg : Gl X "tuple") (hm : X.mg "tuple" = none) (ha : PA X [a] (tAs C mas)) (he : starEach [a] X.env = (false, eval a X.env) :: starEach [] X.env := by rfl) (hpl : NA X [] pos := by rfl) : PE X (.Call (.Name "tuple" p) [a] [] pos) (tM C (mCal (g1 fTuple) mas)) :=
  s_callTy call_tuple_of fTuple_ok hg hm (by decide +kernel) ha (by decide) (by decide) he hpl
/-! ### methods of lists -/
theorem y_app {o : Expr} {cpos : Pos} (ho : PE X o (tM C ma)) (he : PE X e (tM C mb)) (hbase : attributeBase o "append" X.env (eval o X.env) = eval o X.env := by rfl)
    (hfew : ((backTo cpos (starEach [e] X.env)).all (fun x => !x.1) && (backToKw cpos (keywordEach [] X.env)).all (fun x => x.1.isSome) && decide ([e].length + ([] : List Keyword).length + (if ([] : List Keyword).isEmpty then 0 else 1) < 30)) = true := by rfl)
    (hline : (apos.endLine == cpos.line) = true := by rfl) (hs : starEach [e] X.env = (false, eval e X.env) :: starEach [] X.env := by rfl) (hpl : NA X [] cpos := by rfl) : PE X (.Call (.Attribute o "append" apos) [e] [] cpos) (tM C (mApp ma mb)) :=
  s_app (pe_bm PySem.F.plainAttrs_list PySem.F.slot_list_append PySem.F.type_list_append mt_append (pv_frz ho) (pa_cons (pv_frz he) pa_nil hs) hbase hfew hline hs hpl)
theorem y_ext {o : Expr} {cpos : Pos} (ho : PE X o (tM C ma)) (he : PE X e (tM C mb)) (hbase : attributeBase o "extend" X.env (eval o X.env) = eval o X.env := by rfl)
    (hfew : ((backTo cpos (starEach [e] X.env)).all (fun x => !x.1) && (backToKw cpos (keywordEach [] X.env)).all (fun x => x.1.isSome) && decide ([e].length + ([] : List Keyword).length + (if ([] : List Keyword).isEmpty then 0 else 1) < 30)) = true := by rfl)
    (hline : (apos.endLine == cpos.line) = true := by rfl) (hs : starEach [e] X.env = (false, eval e X.env) :: starEach [] X.env := by rfl) (hpl : NA X [] cpos := by rfl) : PE X (.Call (.Attribute o "extend" apos) [e] [] cpos) (tM C (mExt ma mb)) :=
  s_ext (pe_bm PySem.F.plainAttrs_list PySem.F.slot_list_extend PySem.F.type_list_extend mt_extend (pv_frz ho) (pa_cons (pv_frz he) pa_nil hs) hbase hfew hline hs hpl)
theorem y_pop {o : Expr} {cpos : Pos} (ho : PE X o (tM C ma)) (hbase : attributeBase o "pop" X.env (eval o X.env) = eval o X.env := by rfl) (hline : (apos.endLine == cpos.line) = true := by rfl) : PE X (.Call (.Attribute o "pop" apos) [] [] cpos) (tM C (mPop ma)) :=
  s_pop (pe_bm0 PySem.F.plainAttrs_list PySem.F.slot_list_pop PySem.F.type_list_pop mt_pop (pv_frz ho) hbase hline)
end
/-! ### defs by the head's facts -/
def Df (K : PySem.W.Frag) (mg : Str → Option Value) (x : Str) (st : Stmt) : Prop := ∃ f fd, FunD K x x (defArgs st) (defBody st) (defScope st) [] [] f fd ∧ mg x = some (.ref f)
section
variable {P : Program} {w : World} {K : PySem.W.Frag} {mg : Str → Option Value} {base : Heap} {k : Nat} {x : Str} {N ps : List Str} {sb : Sv} {st : Stmt}
theorem fn_def {f : Addr} {fd : FuncData} (F : FunD K x x (defArgs st) (defBody st) (defScope st) [] [] f fd) (S : FnScope N ps (defScope st))
    (body : ∀ (cdv : Value) (f : Addr) (A : Around) (outer : List Env) (s : Shared) (H : Hp) (E : XK), Bd k (cxOf (L2.CX P w) P w K mg base N x (defScope st) f cdv A outer s H E) (Cn.ofE ⟨K, w⟩ mg E) →
      PSs (cxOf (L2.CX P w) P w K mg base N x (defScope st) f cdv A outer s H E) (defBody st) (tS (Cn.ofE ⟨K, w⟩ mg E) sb)) : FnC P w K mg base (k + 1) f fd ps (bodyF N.length ps.length sb) := by
  obtain ⟨oc, od, dV, kV, doc, pm, an, cdv, ct, osl, rfl, lk, hcd, hD, hK⟩ := F.ex
  rcases hD with ⟨_, rfl⟩ | ⟨e, _⟩
  · exact fn_of (st := st) ⟨⟨oc, od, kV, doc, pm, an, cdv, ct, osl, rfl, lk, hcd⟩, F.kp⟩ S fun cdv A outer s H E B => body cdv f A outer s H E B
  · exact absurd rfl e
theorem kn_def (D : Df K mg x st) (S : FnScope N ps (defScope st))
    (hb : ∀ (kV doc pm : Value) (an : Option Addr) (cdv ct : Value) (us : List Value), us.length = ps.length → bindArgs (PySem.W.fnOf x x (defArgs st) (defBody st) (defScope st) .none kV doc pm an cdv ct) ⟨us, []⟩ = pure (ps.zip us))
    (body : ∀ (cdv : Value) (f : Addr) (A : Around) (outer : List Env) (s : Shared) (H : Hp) (E : XK), Bd k (cxOf (L2.CX P w) P w K mg base N x (defScope st) f cdv A outer s H E) (Cn.ofE ⟨K, w⟩ mg E) →
      PSs (cxOf (L2.CX P w) P w K mg base N x (defScope st) f cdv A outer s H E) (defBody st) (tS (Cn.ofE ⟨K, w⟩ mg E) sb)) : Kn P w K mg base x (k + 1) (bodyF N.length ps.length sb) := by
  obtain ⟨f, fd, F, hm⟩ := D
  exact ⟨f, fd, ps, hm, F.kp, F.bindsN hb, fn_def F S body⟩
end
section
open PySem.W PyProof.Rows
theorem law_walkE {l : OpenLaw} {n k : Nat} {q : Program} {loose : List Str} {XP : (Str → Option Value) → Heap → Prop} {YP : World → Heap → Prop} {d : DefRec} {x : Str} {sem : Fs}
    (hn : l.most = some n) (hn2 : n ≤ sizeLine) (hdf : d.params.defaults = []) (hr : Rm k callerA)
    (F : ∀ (w : World) (mg : Str → Option Value) (fa : Addr) (h : Heap), YP w h → h.Ns mainGlobals mg → mg d.name = some (.ref fa) →
      ∃ (K : Frag) (fd : FuncData), K.In h ∧ (∀ (s : Shared) (u : Value), BindsTo s fd ⟨[u], []⟩ [(x, u)]) ∧ ∀ base : Heap, K.In base → base.Ns mainGlobals mg → FnC l.prog w K mg base k fa fd [x] sem)
    (hsem : ∀ ns : List Int, ns.length ≤ n → ∃ st, sem [.s ns] [] = .ok (.d (.bool true)) st) : WalkO q loose XP YP l.row.toRowW d [] (fun f vs => PySem.call f vs) := by
  refine Att.attach_call hn hdf fun w s₀ s₁ mg mb fa o pm cd doc a vs ns G Y ho hd hcd hmg hobj hints hlen hg => ?_
  obtain ⟨K, fd, KX, hb, hF⟩ := F w mg fa _ Y G.T.g hmg
  exact law_any KX G.T.g G.T.b G.T.builtins G.T.nolimit hg hobj hints (Nat.le_trans hlen hn2) hr hF hb (hsem ns hlen)
end
end Cp
/-! Cq: texts times ints, join, enumerate over lists and tuples. -/
namespace Cp
open PySem L2 PySem.Spec
section
variable {X : Cx} {C : Cn} {k j : Nat} {x : Str} {p pos apos cpos : Pos} {e a b c : Expr} {es : List Expr} {m ma mb mc : Ev} {mas : En → Sto → Res (List Vl)} {Q : VK} {μ : List Addr} {F H : Hp} {st : Sto}
/-! ### a text times an int -/
def rMulS : R2 := fun x y H Q => ∃ i k, x = .str i ∧ y = .int k ∧ -(2 ^ 63) ≤ k ∧ k < 2 ^ 63 ∧ i.length * k.toNat ≤ sizeLine ∧ Q (.str (Txt.mul i k)) H
theorem mulOk_of {i : Str} {k : Int} (h1 : -(2 ^ 63) ≤ k) (h2 : k < 2 ^ 63) (hz : i.length * k.toNat ≤ sizeLine) : MulOk i k := by
  have hs : sizeLine = 16777216 := rfl
  refine ⟨?_, fun h3 _ => ?_, fun _ _ => ?_⟩
  · rw [Bool.or_eq_false_iff]; exact ⟨decide_eq_false (by omega), decide_eq_false (by omega)⟩
  · have hk : (k.toNat : Int) = k := Int.toNat_of_nonneg (by omega)
    have h4 : (i.length : Int) * k ≤ 16777216 := by
      rw [hs] at hz
      have h5 : ((i.length * k.toNat : Nat) : Int) ≤ ((16777216 : Nat) : Int) := Int.ofNat_le.mpr hz
      rw [Int.natCast_mul, hk] at h5
      exact h5
    have := Int.le_ediv_of_mul_le (a := (i.length : Int)) (b := 2 ^ 63 - 1) (c := k) (by omega) (by omega)
    omega
  · unfold Builtin.Str.tooLong
    exact decide_eq_false (by omega)
theorem op_mulS : OpR X (binaryOp .Mult) rMulS := by
  intro pins s σ H x y v u Q I rx ry h
  obtain ⟨i, k, rfl, rfl, h1, h2, hz, q⟩ := h
  obtain ⟨t, rfl⟩ := rx
  obtain ⟨t', rfl⟩ := ry
  exact SB.mul (mulOk_of h1 h2 hz) fun t'' tk => ⟨.str (Txt.mul i k), H, I.tok _, ⟨_, rfl⟩, q⟩
def fMulS : PyData → PyData → Option Rv
  | .str i, .int k => if -(2 ^ 63) ≤ k ∧ k < 2 ^ 63 ∧ i.length * k.toNat ≤ sizeLine then some (.d (.str (Txt.mul i k))) else none
  | _, _ => none
theorem fMulS_ok : BinOk C rMulS fMulS := by
  intro a b res v u μ F H st Q s va vb e h
  unfold fMulS at e
  split at e
  · split at e
    · rename_i hh
      cases e
      exact ⟨_, _, va.str, vb.int, hh.1, hh.2.1, hh.2.2, fin_d s h (.str _)⟩
    · cases e
  · cases e
def fMulA (a b : PyData) : Option Rv := match fMul a b with
  | some z => some z
  | none => fMulS a b
theorem s_mulA (ha : PE X a (tM C ma)) (hb : PE X b (tM C mb)) : PE X (.BinOp a .Mult b pos) (tM C (mBin fMulA ma mb)) := s_bin ((op_mulW.or (op_rep.or (op_repT.or op_repT2))).or op_mulS) (fMul_ok.or fMulS_ok) ha hb

/-! ### join -/
def strsD : List PyData → Option (List Str)
  | [] => some []
  | .str x :: r => match strsD r with
    | some xs => some (x :: xs)
    | none => none
  | _ :: _ => none
theorem strsD_ok {K : Kw} : ∀ {vs : List V} {ds : List PyData} {ys : List Str}, DqAll K F vs ds → strsD ds = some ys → vs = ys.map V.str
  | _, _, _, .nil, e => by cases e; rfl
  | v :: vs, d :: ds, ys, .cons h r, e => by
    cases d with
    | str x =>
      unfold strsD at e
      cases q : strsD ds with
      | none => simp only [q] at e; cases e
      | some zs =>
        simp only [q] at e
        cases e
        cases (show Dq K F v (.str x) from h)
        rw [List.map_cons, strsD_ok r q]
    | _ => cases e
def fJoin (a b : PyData) : Option Rv := match a, itemsD b with
  | .str z, some ds => match strsD ds with
    | some ys => if (ys.map (·.length)).sum + ys.length * z.length ≤ 16777216 then some (.d (.str (Txt.join z ys))) else none
    | none => none
  | _, _ => none
def mJoin (ma mb : Ev) : Ev := fun ρ st => (mV ma ρ st).bind fun x s1 => match x with
  | .d (.str z) => (mV mb ρ s1).bind fun y s2 => view2 fJoin s2 x y
  | _ => .no
theorem y_join (ho : PE X a (tM C ma)) (he : PE X e (tM C mb)) (hs : starEach [e] X.env = [(false, eval e X.env)] := by rfl) (hbase : attributeBase a "join" X.env (eval a X.env) = eval a X.env := by rfl) (hline : (apos.endLine == pos.line) = true := by rfl) :
    PE X (.Call (.Attribute a "join" apos) [e] [] pos) (tM C (mJoin ma mb)) :=
  (pe_join (pv_frz ho) (pv_frz he) hs hbase hline).imp fun σ H Q ⟨ρ, st, μ, F, h1, h2, h3⟩ => ⟨ρ, st, μ, F, h1, h2, Post.bindV gE_lat h3 fun x s v μ1 F1 H1 x1 r1 k1 h4 => by
    cases x with
    | c i => exact False.elim h4
    | s i => exact False.elim h4
    | o i => exact False.elim h4
    | d x =>
      cases x with
      | str z =>
        cases (show Dq C.K F1 v (.str z) from k1)
        refine ⟨⟨z, rfl⟩, ρ, s, μ1, F1, h1.ext x1, r1, Post.bindV gE_lat h4 fun y s2 u μ2 F2 H2 x2 r2 k2 h5 => ?_⟩
        unfold view2 at h5
        have e1 : view s2 (.d (.str z)) = some (.str z) := rfl
        cases q2 : view s2 y with
        | none => simp only [e1, q2] at h5; exact False.elim h5
        | some db =>
          cases q3 : fJoin (.str z) db with
          | none => simp only [e1, q2, q3] at h5; exact False.elim h5
          | some res =>
            simp only [e1, q2, q3] at h5
            have w := view_ok r2 k2 q2
            unfold fJoin at q3
            cases db with
            | list ds =>
              simp only [itemsD] at q3
              cases q4 : strsD ds with
              | none => simp only [q4] at q3; cases q3
              | some ys =>
                simp only [q4] at q3
                split at q3
                · rename_i hz
                  cases q3
                  obtain ⟨pp, xs, rfl, p1, p2⟩ := w
                  exact ⟨z, pp, ys, rfl, rfl, .inl (by rw [← strsD_ok p2 q4]; exact SqL.of p1), hz, fin_d r2 h5 (.str _)⟩
                · cases q3
            | tuple ds =>
              simp only [itemsD] at q3
              cases q4 : strsD ds with
              | none => simp only [q4] at q3; cases q3
              | some ys =>
                simp only [q4] at q3
                split at q3
                · rename_i hz
                  cases q3
                  obtain ⟨pp, xs, rfl, p1, p2⟩ := w.tup
                  exact ⟨z, pp, ys, rfl, rfl, .inr (by rw [← strsD_ok p2 q4]; exact SqT.of (r2.sub _ _ p1)), hz, fin_d r2 h5 (.str _)⟩
                · cases q3
            | _ => cases q3
      | _ => exact False.elim h4⟩
end

/-! ### enumerate of a tuple -/
section
open PyProof.Rows
theorem meets_enumerate_newT (l : Addr) (items : Array Value) (n : Nat) (dct : Option Addr) (sl : Array (Option Value)) :
    Meets (Builtin.«enumerate.__new__» ⟨[.type "enumerate", .ref l], []⟩) (fun _ R s => s.heap.get? l = some { cls := .type "tuple", dict := dct, data := .seq items n, slots := sl } ∧
      R (.ok (.ret (.ref (s.heap.push { cls := .type "tuple_iterator", data := .fields #[.ref l, .int 0 0] }).objs.size)))
        { s with heap := (s.heap.push { cls := .type "tuple_iterator", data := .fields #[.ref l, .int 0 0] }).push { cls := .type "enumerate", data := .fields #[.none, .bool false, .ref s.heap.objs.size, rawInt 0, .none, .none] } }) :=
  .of_wp fun prog w A R s h => by
    obtain ⟨hp, g, d, tk, os⟩ := s; obtain ⟨hl, h⟩ := h
    have hsub := sub_enumerate
    have hL : Heap.IsTuple (Shared.heap ⟨hp, g, d, tk, os⟩) l items := ⟨_, hl, rfl, n, rfl⟩
    wp_walk using AutoSeq1.wpAny_loadPart' hl
    refine wpAny_stack_any fun st => wpAny_pure ?_
    split
    · rename_i c _ _ _ _ _
      cases (c == Value.type "enumerate")
      · wp_walk using AutoSeq1.wpAny_loadPart' hl, wpAny_pyIter_tuple hL
        exact ⟨_, rfl, h⟩
      · wp_walk using AutoSeq1.wpAny_loadPart' hl, wpAny_pyIter_tuple hL
        exact ⟨_, rfl, h⟩
    · wp_walk using AutoSeq1.wpAny_loadPart' hl, wpAny_pyIter_tuple hL
      exact ⟨_, rfl, h⟩
variable {prog : Program} {w : World} {A : Around} {E : Value → Shared → Prop} {s : Shared}
theorem call_enumerate_tup {l : Addr} {items : Array Value} {Q : Value → Shared → Prop} (hL : s.heap.IsTuple l items)
    (h : ∀ h', IsEnum h' (s.heap.objs.size + 1) s.heap.objs.size 0 .none → h'.IsTupleIter s.heap.objs.size l 0 → h'.objs.size = s.heap.objs.size + 2 →
      (∀ b o, s.heap.get? b = some o → h'.get? b = some o) → Q (.ref (s.heap.objs.size + 1)) { s with heap := h' }) :
    wpAny (model prog w) A (call (.type "enumerate") [.ref l]) Q E s := by
  obtain ⟨⟨c, dct, dt, sl⟩, hl, hc, n, hd⟩ := hL
  replace hc : c = .type "tuple" := hc
  replace hd : dt = .seq items n := hd
  subst hc hd
  refine callType_new F.called_enumerate (by decide) (F.typeCall_enumerate_1 _) (F.newCall_enumerate_1 _) (fun obj => F.args_object_init_2 obj _) F.entry_enumerate_new
    (meets_enumerate_newT l items n dct sl) ⟨hl, ?_⟩
  have hz : (s.heap.push { cls := .type "tuple_iterator", data := .fields #[.ref l, .int 0 0] }).objs.size = s.heap.objs.size + 1 := Heap.size_push ..
  show _ ∧ _
  rw [hz]
  have he : IsEnum ((s.heap.push { cls := .type "tuple_iterator", data := .fields #[.ref l, .int 0 0] }).push
      { cls := .type "enumerate", data := .fields #[.none, .bool false, .ref s.heap.objs.size, rawInt 0, .none, .none] }) (s.heap.objs.size + 1) s.heap.objs.size 0 .none := by
    have := Heap.get?_push_size (s.heap.push { cls := .type "tuple_iterator", data := .fields #[.ref l, .int 0 0] })
      (o := { cls := .type "enumerate", data := .fields #[.none, .bool false, .ref s.heap.objs.size, rawInt 0, .none, .none] }) rfl
    rw [hz] at this; exact this
  refine ⟨⟨_, he, rfl⟩, h _ he ⟨_, Heap.get?_push_of_some _ (Heap.get?_push_size _ rfl), rfl, rfl⟩ (by rw [Heap.size_push, hz]) fun b o x => Heap.get?_push_of_some _ (Heap.get?_push_of_some _ x)⟩
/-- the tuple at a, each item in a new pair -/
def IteT (K : PySem.W.Frag) (a : Addr) : It :=
  ⟨fun i H => ∃ (xs : List V) (x : V), SqT K H a xs ∧ xs[i]? = some x, fun i H v H' => ∃ T x, v = .ref T ∧ H T = none ∧ H' = upd H T (.tup [.int (i : Nat), x]) ∧ ∀ xs, SqT K H a xs → xs[i]? = some x, fun i H => ∃ xs : List V, SqT K H a xs ∧ xs.length ≤ i⟩
theorem turn_enumT {P : Program} {w : World} {K : PySem.W.Frag} {elts : List Expr} {kk : Nat} {tpos : Pos} (a e it : Addr) (hai : a ≠ it) (hae : a ≠ e) :
    Turn P w K (.Tuple elts kk tpos) (IteT K a) [e, it] e (fun i h => (∃ old, IsEnum h e it ((i : Nat) : Int) old) ∧ h.IsTupleIter it a i ∧ e ≠ it) where
  mem := by simp
  obj := fun i h st b hb => by
    obtain ⟨⟨old, he⟩, ⟨o, ho, hc, hd⟩, _⟩ := st
    have e' : b = e ∨ b = it := by simpa using hb
    rcases e' with z | z
    · rw [z]; exact ⟨_, he, fun v q => nomatch q⟩
    · rw [z]; exact ⟨o, ho, fun v q => by rw [hd] at q; cases q⟩
  keep := fun i h h' st k => let ⟨⟨old, he⟩, hi, hne⟩ := st; ⟨⟨old, k e (by simp) _ he⟩, hi.at fun o q => k it (by simp) o q, hne⟩
  item := by
    intro X hP hw hK hc i pins s σ H E I hf st hg
    subst hP hw hK
    obtain ⟨⟨old, he⟩, hit, hne⟩ := st
    obtain ⟨xs, x, hq, hx⟩ := hg
    obtain ⟨its, rv, p, hz⟩ := I.tuple hq
    obtain ⟨u, hu, ru⟩ := rv.get hx
    have hel : e < s.heap.objs.size := Heap.lt_size he
    have hil : it < s.heap.objs.size := by obtain ⟨_, q, _⟩ := hit; exact Heap.lt_size q
    have hlt : i < its.toArray.size := by
      obtain ⟨z, _⟩ := List.getElem?_eq_some_iff.mp hu
      rw [List.size_toArray]; exact z
    have pt : s.heap.IsTuple a its.toArray := p
    refine wpAny_pyNext_enum_itemD (Draws.tuple (prog := X.prog) (w := X.w) (A := X.A.in1) (I.ok.hd hc) it a hai its.toArray) he ⟨hit, pt⟩ hlt hne (by simp [hne, Ne.symm hae]) fun x2 h' tk hp ho hit' hT hsz hk => ?_
    obtain rfl : u = x2 := by
      have : its.toArray[i]? = some u := by simpa using hu
      rw [this] at hp; cases hp; rfl
    refine ⟨_, rfl, wpAny_letOwnedTupleGo_enum (s := { s with heap := h', toks := tk + 1 }) ho fun h'' he' sb => ?_⟩
    have hT2 : h''.get? s.heap.objs.size = some { cls := .type "tuple", data := .seq #[.int i tk, u] } := (sb.2 _ (Nat.ne_of_gt hel)).trans hT
    have new : ObjOk X.prog X.w (upd H s.heap.objs.size (.tup [.int (i : Nat), x])) h'' s.heap.objs.size (.tup [.int (i : Nat), x]) :=
      ⟨by show 2 ≤ sizeLine; decide, [.int i tk, u], .cons ⟨_, rfl⟩ (.cons ru .nil), ⟨_, hT2, rfl, _, rfl⟩⟩
    have I1 : Inv X pins σ (upd H s.heap.objs.size (.tup [.int (i : Nat), x])) { s with heap := h'', toks := tk + 1 } :=
      I.turnedNew (ch := [e, it]) (fun b ob hb q => (sb.2 b (fun z => hb (by simp [z]))).trans (hk b ob (fun z => hb (by simp [z])) (fun z => hb (by simp [z])) q)) hf (Nat.le_refl _) new
    refine ⟨.ref s.heap.objs.size, _, I1, rfl, ⟨_, x, rfl, I.hok.fresh (Nat.le_refl _), rfl, fun ys hy => by rw [I.tuple_inj hy hq]; exact hx⟩, ⟨⟨u, ?_⟩, hit'.1.at fun o q => (sb.2 it (Ne.symm hne)).trans q, hne⟩, fun b hb => ?_⟩
    · have e1 : ((i + 1 : Nat) : Int) = (i : Int) + 1 := by omega
      rw [e1]; exact he'
    · have hb' : b < s.heap.objs.size := by
        have e' : b = e ∨ b = it := by simpa using hb
        rcases e' with z | z
        · rw [z]; exact hel
        · rw [z]; exact hil
      rw [upd_ne (Nat.ne_of_lt hb')]
      exact (hf b hb).1
  done := by
    intro X hP hw hK hc i pins s σ H E I hf st hg
    subst hP hw hK
    obtain ⟨⟨old, he⟩, hit, hne⟩ := st
    obtain ⟨xs, hq, hx⟩ := hg
    obtain ⟨its, rv, p, hz⟩ := I.tuple hq
    obtain ⟨f0, f1, f2, f3, f4, f5⟩ := hf it (by simp)
    have hl := rv.length
    have pt : s.heap.IsTuple a its.toArray := p
    have D := Draws.tuple (prog := X.prog) (w := X.w) (A := X.A.in1) (I.ok.hd hc) it a hai its.toArray
    have hT : s.TypeIs (.ref e) "enumerate" := ⟨_, he, rfl⟩
    unfold pyNext
    refine wpAny_bind (wpAny_attempt (wpAny_callSpecial?_slot (name := Str.ofString "__next__") hT F.slot_enumerate_next
      (wpAny_call_entry F.slot_enumerate_next hT F.entry_enumerate_next ?_ (F.args_enumerate_next_1 _))))
    show wpAny _ _ (field (.ref e) 2 >>= _) _ _ _
    refine wpAny_bind (wpAny_field he rfl (x := .ref it) rfl ?_)
    refine wpAny_bind (wpAny_nextOf_tuple_end (I.ok.hd hc) hit pt (by simp; omega) fun h' x he' hx' => ?_)
    obtain ⟨o, ho, hcc⟩ := hx'
    refine wpAny_bind (wpAny_isInstance (T := "StopIteration") (b := true) ⟨o, ho, hcc⟩ isSubtype_stop ?_)
    exact wpAny_pure ⟨rfl, I.turned (t' := s.toks) (fun b o hb q => he' b o hb q) f0 f1 f3 f4 f5⟩
  self := fun A i s Q E st h => let ⟨⟨_, he⟩, _⟩ := st; wpAny_pyIter_enum he h
def iEnumA (K : PySem.W.Frag) (ta : TA) : TI := fun σ H R => ta σ H fun vs H1 => ∃ a xs, vs = [.ref a] ∧ ((SqL K H1 a xs ∧ R (Ite K a) H1) ∨ (SqT K H1 a xs ∧ R (IteT K a) H1))
theorem pi_enumA {X : Cx} {e : Expr} {ta : TA} {p pos tpos : Pos} {elts : List Expr} {kk : Nat} (hg : Gl X "enumerate") (hm : X.mg "enumerate" = none) (ha : PA X [e] ta) (hs : starEach [e] X.env = [(false, eval e X.env)] := by rfl) :
    PI X (.Tuple elts kk tpos) (.Call (.Name "enumerate" p) [e] [] pos) (iEnumA X.K ta) := by
  refine ⟨fun pins s σ H R I h => ?_⟩
  refine Call_ (ld_blt I hg hm boot_enumerate (PyProof.Rows.callWith_type1 (thn (ha.run pos pins s σ H _ I h) fun us s1 ⟨vs, H1, I1, r1, q1⟩ => ?_) hs rfl))
  obtain ⟨a, xs, ex, q⟩ := q1
  subst ex
  cases r1 with
  | cons r rr =>
    cases rr
    cases r
    have fr : ∀ b, b ∈ [s1.heap.objs.size + 1, s1.heap.objs.size] → FpOk X pins H1 b := fun b hb => by
      have e' : b = s1.heap.objs.size + 1 ∨ b = s1.heap.objs.size := by simpa using hb
      have hle : s1.heap.objs.size ≤ b := by
        rcases e' with z | z
        · rw [z]; exact Nat.le_add_right _ _
        · rw [z]; exact Nat.le_refl _
      exact I1.fpOk hle (I1.hok.fresh hle)
    rcases q with ⟨hq, q⟩ | ⟨hq, q⟩
    · obtain ⟨its, rv, p', hz⟩ := I1.list hq
      refine call_enumerate_list p'.isList fun h' he hit hsz hk => wpAny_pyIter_enum he ?_
      have I2 : Inv X pins σ H1 { s1 with heap := h' } := I1.kept (t' := s1.toks) hk
      exact ⟨s1.heap.objs.size + 1, [s1.heap.objs.size + 1, s1.heap.objs.size], _, _, H1, rfl, I2, turn_enum a (s1.heap.objs.size + 1) s1.heap.objs.size, ⟨⟨.none, he⟩, hit, Nat.succ_ne_self _⟩, fr, q⟩
    · obtain ⟨its, rv, p', hz⟩ := I1.tuple hq
      have pt : s1.heap.IsTuple a its.toArray := p'
      have hal : a < s1.heap.objs.size := by obtain ⟨o, ho, _⟩ := id pt; exact Heap.lt_size ho
      refine call_enumerate_tup pt fun h' he hit hsz hk => wpAny_pyIter_enum he ?_
      have I2 : Inv X pins σ H1 { s1 with heap := h' } := I1.kept (t' := s1.toks) hk
      exact ⟨s1.heap.objs.size + 1, [s1.heap.objs.size + 1, s1.heap.objs.size], _, _, H1, rfl, I2, turn_enumT a (s1.heap.objs.size + 1) s1.heap.objs.size (Nat.ne_of_lt hal) (Nat.ne_of_lt (Nat.lt_succ_of_lt hal)), ⟨⟨.none, he⟩, hit, Nat.succ_ne_self _⟩, fr, q⟩
end
section
variable {X : Cx} {C : Cn} {p pos tpos : Pos} {e a b : Expr} {μ : List Addr} {F H : Hp} {st : Sto} {mas : En → Sto → Res (List Vl)} {elts : List Expr} {kk : Nat}
def enumF : Nat → List PyData → List PyData
  | _, [] => []
  | i, d :: r => .tuple [.int (i : Nat), d] :: enumF (i + 1) r
theorem enumF_get : ∀ (ds : List PyData) (j i : Nat), (enumF j ds)[i]? = ds[i]?.map fun d => .tuple [.int ((j + i : Nat) : Int), d]
  | [], _, _ => rfl
  | d :: r, j, 0 => rfl
  | d :: r, j, i + 1 => by
    show (enumF (j + 1) r)[i]? = r[i]?.map _
    rw [enumF_get r (j + 1) i]
    congr 1
    funext d
    have : j + 1 + i = j + (i + 1) := by omega
    rw [this]
theorem enumF_len : ∀ (ds : List PyData) (j : Nat), (enumF j ds).length = ds.length
  | [], _ => rfl
  | d :: r, j => by show (enumF (j + 1) r).length + 1 = r.length + 1; rw [enumF_len]
/-- the source of enumerate -/
def srcEn (s : Sto) (xs : List Vl) : Option Src := match xs with
  | [.c k] => match s[k]? with
    | some (.l xs) => some (enumF 0 xs, some (k, xs))
    | _ => none
  | [.d (.list xs)] => some (enumF 0 xs, none)
  | [.d (.tuple xs)] => some (enumF 0 xs, none)
  | _ => none
def iEn (ma : En → Sto → Res (List Vl)) : En → Sto → Res Src := fun ρ st => (ma ρ st).bind fun xs s => okO (srcEn s xs) s
theorem SR.tupled {K : Kw} (r1 : SR K μ F H st) {T : Addr} {x y : V} {d d' : PyData} (hT : H T = none) (h : Dq K F x d) (h' : Dq K F y d') :
    ∃ F2, Ext μ F H μ F2 (upd H T (.tup [x, y])) ∧ SR K μ F2 (upd H T (.tup [x, y])) st ∧ Dq K F2 (.ref T) (.tuple [d, d']) := by
  obtain ⟨s1, x1⟩ := r1.newly (o := .tup [x, y]) hT
  have hd := r1.dead hT
  obtain ⟨s2, x2, sm⟩ := s1.freeze x1 r1.sub hT upd_same hd.1 hd.2
  exact ⟨_, x2, s2, .tup upd_same (.cons (h.same sm) (.cons (h'.same sm) .nil))⟩
theorem wk_enum {K : PySem.W.Frag} {q : Addr} {ds : List PyData} {g : Option (Nat × List PyData)} (hx : ∀ μ1 F1 H1 st1, Sx μ F μ1 F1 → SR C.K μ1 F1 H1 st1 → Grd g (enumF 0 ds) st1 → ∃ ys, H1 q = some (.lst ys) ∧ DqAll C.K F1 ys ds) : Wk C.K (Ite K q) (enumF 0 ds) g μ F := by
  refine ⟨fun i μ1 F1 H1 st1 d x1 r1 k1 e => ?_, fun μ1 F1 H1 st1 x1 r1 k1 => ?_⟩
  · obtain ⟨ys, g1, g2⟩ := hx μ1 F1 H1 st1 x1 r1 k1
    rw [enumF_get] at e
    obtain ⟨d', e', rfl⟩ := Option.map_eq_some_iff.mp e
    obtain ⟨v, g3, g4⟩ := g2.get e'
    refine ⟨⟨ys, v, SqL.of g1, g3⟩, fun x H2 ⟨T, x', e1, e2, e3, e4⟩ => ?_⟩
    subst e1 e3
    have := e4 ys (SqL.of g1)
    rw [g3] at this
    cases this
    rw [Nat.zero_add]
    exact r1.tupled e2 (.int _) g4
  · obtain ⟨ys, g1, g2⟩ := hx μ1 F1 H1 st1 x1 r1 k1
    exact ⟨ys, SqL.of g1, by rw [enumF_len]; exact Nat.le_of_eq g2.length⟩
theorem wk_enumT {K : PySem.W.Frag} {xs : List V} {q : Addr} {ds : List PyData} {g : Option (Nat × List PyData)} (h1 : F q = some (.tup xs)) (h2 : DqAll C.K F xs ds) : Wk C.K (IteT K q) (enumF 0 ds) g μ F := by
  refine ⟨fun i μ1 F1 H1 st1 d x1 r1 k1 e => ?_, fun μ1 F1 H1 st1 x1 r1 k1 => ?_⟩
  · have g1 := r1.sub _ _ (x1.same _ _ h1)
    rw [enumF_get] at e
    obtain ⟨d', e', rfl⟩ := Option.map_eq_some_iff.mp e
    obtain ⟨v, g3, g4⟩ := (h2.same x1.same).get e'
    refine ⟨⟨xs, v, SqT.of g1, g3⟩, fun x H2 ⟨T, x', e1, e2, e3, e4⟩ => ?_⟩
    subst e1 e3
    have := e4 xs (SqT.of g1)
    rw [g3] at this
    cases this
    rw [Nat.zero_add]
    exact r1.tupled e2 (.int _) g4
  · exact ⟨xs, SqT.of (r1.sub _ _ (x1.same _ _ h1)), by rw [enumF_len]; exact Nat.le_of_eq h2.length⟩
theorem i_enum (hg : Gl X "enumerate") (hm : X.mg "enumerate" = none) (ha : PA X [e] (tAs C mas)) (hs : starEach [e] X.env = [(false, eval e X.env)] := by rfl) : PI X (.Tuple elts kk tpos) (.Call (.Name "enumerate" p) [e] [] pos) (tI C (iEn mas)) :=
  (pi_enumA hg hm ha hs).imp fun σ H R ⟨ρ, st, μ, F, h1, h2, h3⟩ => ⟨ρ, st, μ, F, h1, h2, Post.bindA gW_lat h3 fun x s v μ1 F1 H1 x1 r1 k1 h4 => by
    cases q0 : srcEn s x with
    | none => simp only [q0, okO] at h4; exact False.elim h4
    | some sr =>
      simp only [q0, okO] at h4
      cases x with
      | nil => cases q0
      | cons y r =>
        cases r with
        | cons _ _ => cases y with
          | d z => cases z <;> cases q0
          | _ => cases q0
        | nil =>
          obtain ⟨v, rfl, k2⟩ := k1.one
          cases y with
          | s _ => cases q0
          | o _ => cases q0
          | c k =>
            cases q : s[k]? with
            | none => simp only [srcEn, q] at q0; cases q0
            | some cl =>
              cases cl with
              | m _ => simp only [srcEn, q] at q0; cases q0
              | l xs =>
                simp only [srcEn, q] at q0
                cases q0
                obtain ⟨pp, hp, rfl⟩ := k2
                obtain ⟨p', o', g1, g2, ys, rfl, g3⟩ := r1.cell k _ q
                rw [hp] at g1; cases g1
                refine ⟨pp, ys, rfl, .inl ⟨SqL.of g2, h4 _ μ1 F1 H1 Ext.refl r1 (wk_enum fun μ2 F2 H2 st2 x2 r2 k2 => ?_)⟩⟩
                obtain ⟨p2, o2, e1, e2, zs, rfl, e3⟩ := r2.cell k _ k2
                rw [x2.get hp] at e1; cases e1
                exact ⟨zs, e2, e3⟩
          | d z =>
            cases z with
            | list xs =>
              cases q0
              cases (show Dq C.K F1 v (.list xs) from k2) with
              | lst q1 q2 => exact ⟨_, _, rfl, .inl ⟨SqL.of (r1.sub _ _ q1), h4 _ μ1 F1 H1 Ext.refl r1 (wk_enum fun μ2 F2 H2 st2 x2 r2 k2 => ⟨_, r2.sub _ _ (x2.same _ _ q1), q2.same x2.same⟩)⟩⟩
            | tuple xs =>
              cases q0
              cases (show Dq C.K F1 v (.tuple xs) from k2) with
              | tup q1 q2 => exact ⟨_, _, rfl, .inr ⟨SqT.of (r1.sub _ _ q1), h4 _ μ1 F1 H1 Ext.refl r1 (wk_enumT q1 q2)⟩⟩
            | _ => cases q0⟩
end
end Cp
/-! Cr: constants of the module; sorted(set(ints)). -/
namespace Cp
open PySem L2 PySem.Spec
section
variable {X : Cx} {C : Cn} {x : Str} {pos : Pos}
theorem s_gs {z : Str} (hg : Gl X x) (h : ∃ t, X.mg x = some (.str z t)) (hd : (x == ("__debug__" : Str)) = false := by decide) : PE X (.Name x pos) (tM C (mK (.str z))) :=
  let ⟨t, h⟩ := h
  s_const (pe_glob (v := .str z) hg h ⟨t, rfl⟩ hd) fun _ => .str z
theorem s_gi {i : Int} (hg : Gl X x) (h : ∃ t, X.mg x = some (.int i t)) (hd : (x == ("__debug__" : Str)) = false := by decide) : PE X (.Name x pos) (tM C (mK (.int i))) :=
  let ⟨t, h⟩ := h
  s_const (pe_glob (v := .int i) hg h ⟨t, rfl⟩ hd) fun _ => .int i
end
end Cp
/-! Cm: what a meaning comes to, rule by rule (weakest preconditions), for the plain laws. -/
namespace Cp
open PySem L2
def WVe {α : Type} (E : Er → Sto → Prop) (r : Res α) (P : α → Sto → Prop) : Prop := match r with
  | .ok a s => P a s
  | .er e s => E e s
  | .no => False
def WO {α : Type} (o : Option α) (P : α → Prop) : Prop := match o with
  | some a => P a
  | none => False
def WSe (E : Er → Sto → Prop) (r : RS) (N B C : En → Sto → Prop) (R : Rv → Sto → Prop) : Prop := match r with
  | .nx ρ s => N ρ s
  | .bk ρ s => B ρ s
  | .ct ρ s => C ρ s
  | .rt r s => R r s
  | .er e s => E e s
  | .no => False
abbrev noE : Er → Sto → Prop := fun _ _ => False
/-- no error comes -/
@[simp] theorem noE_take (n : Nat) : (fun (e : Er) (s2 : Sto) => noE e (s2.take n)) = noE := rfl
section
variable {E : Er → Sto → Prop} {α β : Type} {P : α → Sto → Prop} {st : Sto} {ρ : En} {N B C : En → Sto → Prop} {R : Rv → Sto → Prop}
@[simp] theorem WO_some (a : α) (P : α → Prop) : WO (some a) P = P a := rfl
@[simp] theorem WO_none (P : α → Prop) : WO none P = False := rfl
@[simp] theorem WO_ite (c : Prop) [Decidable c] (a : α) (P : α → Prop) : WO (if c then some a else none) P = (c ∧ P a) := by by_cases h : c <;> simp [h]
@[simp] theorem WO_map (f : α → β) (o : Option α) (P : β → Prop) : WO (o.map f) P = WO o fun a => P (f a) := by cases o <;> rfl
theorem WO_mono {o : Option α} {P Q : α → Prop} (h : WO o P) (w : ∀ a, o = some a → P a → Q a) : WO o Q := by cases o with
  | none => exact h
  | some a => exact w a rfl h
@[simp] theorem WV_ok (a : α) : WVe E (.ok a st) P = P a st := rfl
@[simp] theorem WV_no : WVe E (.no : Res α) P = False := rfl
@[simp] theorem WV_bind (r : Res α) (f : α → Sto → Res β) (P : β → Sto → Prop) : WVe E (r.bind f) P = WVe E r fun a s => WVe E (f a s) P := by cases r <;> rfl
theorem WV_mono {r : Res α} {P Q : α → Sto → Prop} (h : WVe E r P) (w : ∀ a s, P a s → Q a s) : WVe E r Q := by cases r with
  | ok a s => exact w a s h
  | er e s => exact h
  | no => exact h
theorem WV_ex {r : Res α} (h : WVe noE r P) : ∃ a s, r = .ok a s ∧ P a s := by cases r with
  | ok a s => exact ⟨a, s, rfl, h⟩
  | er e s => exact False.elim h
  | no => exact False.elim h
@[simp] theorem WV_okO (o : Option α) : WVe E (okO o st) P = WO o fun a => P a st := by cases o <;> rfl
@[simp] theorem WV_okB (o : Option Bool) (P : Bool → Sto → Prop) : WVe E (okB o st) P = WO o fun a => P a st := by cases o <;> rfl
theorem WS_mono {r : RS} {N' B' C' : En → Sto → Prop} {R' : Rv → Sto → Prop} (h : WSe E r N B C R) (n : ∀ ρ s, N ρ s → N' ρ s) (b : ∀ ρ s, B ρ s → B' ρ s) (c : ∀ ρ s, C ρ s → C' ρ s) (q : ∀ ρ s, R ρ s → R' ρ s) : WSe E r N' B' C' R' := by
  cases r with
  | nx ρ s => exact n ρ s h
  | bk ρ s => exact b ρ s h
  | ct ρ s => exact c ρ s h
  | rt r s => exact q r s h
  | er e s => exact h
  | no => exact h
@[simp] theorem WS_toS (r : Res α) (k : α → Sto → RS) : WSe E (r.toS k) N B C R = WVe E r fun a s => WSe E (k a s) N B C R := by cases r <;> rfl
@[simp] theorem WS_nx (s : Sto) : WSe E (.nx ρ s) N B C R = N ρ s := rfl
@[simp] theorem WS_rt (r : Rv) (s : Sto) : WSe E (.rt r s) N B C R = R r s := rfl
@[simp] theorem WS_bk (s : Sto) : WSe E (.bk ρ s) N B C R = B ρ s := rfl
@[simp] theorem WS_ct (s : Sto) : WSe E (.ct ρ s) N B C R = C ρ s := rfl
@[simp] theorem WS_no : WSe E .no N B C R = False := rfl
/-! ### expressions -/
variable {m ma mb : Ev} {mas : En → Sto → Res (List Vl)} {PE : Rv → Sto → Prop} {PV : Vl → Sto → Prop} {PB : Bool → Sto → Prop} {PA : List Vl → Sto → Prop} {ca cb : En → Sto → Res Bool}
@[simp] theorem W_mV : WVe E (mV m ρ st) PV = WVe E (m ρ st) fun r s => PV (frz r) s := by unfold mV; rw [WV_bind]; rfl
/-- a value that nobody writes again -/
def given (r : Rv) (s : Sto) (P : Vl → Sto → Prop) : Prop := match r with
  | .c k => (match s[k]? with
    | some (.l xs) => P (.d (.list xs)) (s.set k gone)
    | _ => False)
  | r => P (frz r) s
@[simp] theorem given_d (c : PyData) (s : Sto) (P : Vl → Sto → Prop) : given (.d c) s P = P (.d c) s := rfl
@[simp] theorem given_n (c : Cl) (s : Sto) (P : Vl → Sto → Prop) : given (.n c) s P = P (frz (.n c)) s := rfl
@[simp] theorem given_c (k : Nat) (s : Sto) (P : Vl → Sto → Prop) : given (.c k) s P = match s[k]? with
    | some (.l xs) => P (.d (.list xs)) (s.set k gone)
    | _ => False := rfl
@[simp] theorem W_mVz : WVe E (mVz m ρ st) PV = WVe E (m ρ st) fun r s => given r s PV := by
  unfold mVz; rw [WV_bind]
  congr 1; funext r s
  cases r with
  | c k =>
    show WVe E (match s[k]? with
      | some (.l xs) => .ok (.d (.list xs)) (s.set k gone)
      | _ => .no) PV = match s[k]? with
      | some (.l xs) => PV (.d (.list xs)) (s.set k gone)
      | _ => False
    cases s[k]? with
    | none => rfl
    | some c => cases c <;> rfl
  | _ => rfl
/-- a value that is kept: a new object becomes a cell -/
def kept (r : Rv) (s : Sto) (P : Vl → Sto → Prop) : Prop := match r with
  | .n c => P (.c s.length) (s ++ [c])
  | r => P (frz r) s
@[simp] theorem kept_n (c : Cl) (s : Sto) (P : Vl → Sto → Prop) : kept (.n c) s P = P (.c s.length) (s ++ [c]) := rfl
@[simp] theorem kept_d (c : PyData) (s : Sto) (P : Vl → Sto → Prop) : kept (.d c) s P = P (.d c) s := rfl
@[simp] theorem kept_c (c : Nat) (s : Sto) (P : Vl → Sto → Prop) : kept (.c c) s P = P (.c c) s := rfl
@[simp] theorem W_mVc : WVe E (mVc m ρ st) PV = WVe E (m ρ st) fun r s => kept r s PV := by
  unfold mVc; rw [WV_bind]
  congr 1; funext r s
  cases r <;> rfl
@[simp] theorem frz_d (x : PyData) : frz (.d x) = .d x := rfl
@[simp] theorem frz_c (x : Nat) : frz (.c x) = .c x := rfl
@[simp] theorem frz_s (x : List Int) : frz (.s x) = .s x := rfl
@[simp] theorem frz_o (x : Ob) : frz (.o x) = .o x := rfl
@[simp] theorem frz_l (x : List PyData) : frz (.n (.l x)) = .d (.list x) := rfl
@[simp] theorem of_d (x : PyData) : Rv.of (.d x) = .d x := rfl
@[simp] theorem of_c (x : Nat) : Rv.of (.c x) = .c x := rfl
@[simp] theorem of_s (x : List Int) : Rv.of (.s x) = .s x := rfl
@[simp] theorem of_o (x : Ob) : Rv.of (.o x) = .o x := rfl
@[simp] theorem frz_of (x : Vl) : frz (Rv.of x) = x := by cases x <;> rfl
@[simp] theorem kept_of (x : Vl) (s : Sto) (P : Vl → Sto → Prop) : kept (Rv.of x) s P = P x s := by cases x <;> rfl
@[simp] theorem view_d (x : PyData) : view st (.d x) = some x := rfl
@[simp] theorem view_c (i : Nat) : view st (.c i) = match st[i]? with
  | some (.l xs) => some (.list xs)
  | some (.m kvs) => if isGone (.m kvs) then none else some (.dict kvs)
  | none => none := rfl
@[simp] theorem W_mK (x : PyData) : WVe E (mK x ρ st) PE = PE (.d x) st := rfl
@[simp] theorem W_mN (i : Nat) : WVe E (mN i ρ st) PE = WO (ρ[i]?) fun o => WO o fun x => PE (Rv.of x) st := by
  unfold mN
  cases h : ρ[i]? with
  | none => rfl
  | some o => cases o <;> rfl
@[simp] theorem W_mBin (f : PyData → PyData → Option Rv) : WVe E (mBin f ma mb ρ st) PE = WVe E (ma ρ st) fun r1 s1 => WVe E (mb ρ s1) fun r2 s2 => WO (view s2 (frz r1)) fun x => WO (view s2 (frz r2)) fun y => WO (f x y) fun r => PE r s2 := by
  unfold mBin; rw [WV_bind, W_mV]
  congr 1; funext r1 s1; rw [WV_bind, W_mV]
  congr 1; funext r2 s2
  unfold view2
  cases view s2 (frz r1) with
  | none => rfl
  | some x => cases view s2 (frz r2) with
    | none => rfl
    | some y => simp only [WO_some]; cases f x y <;> rfl
@[simp] theorem W_mSix : WVe E (mSix ma mb ρ st) PE = WVe E (ma ρ st) fun r1 s1 => WVe E (mb ρ s1) fun r2 s2 => match frz r1, frz r2 with
    | .s ns, .d (.int i) => WO (atI ns i) fun k => PE (.d (.int k)) s2
    | _, _ => False := by
  unfold mSix; rw [WV_bind, W_mV]
  congr 1; funext r1 s1; rw [WV_bind, W_mV]
  congr 1; funext r2 s2
  generalize frz r1 = v1
  generalize frz r2 = v2
  cases v1 with
  | s ns =>
    cases v2 with
    | d y =>
      cases y with
      | int i => dsimp only; cases atI ns i <;> rfl
      | _ => rfl
    | _ => rfl
  | _ => rfl
@[simp] theorem W_mCmp (g : PyData → PyData → Option Bool) : WVe E (mCmp g ma mb ρ st) PB = WVe E (ma ρ st) fun r1 s1 => WVe E (mb ρ s1) fun r2 s2 => WO (cmp2 g s2 (frz r1) (frz r2)) fun k => PB k s2 := by
  unfold mCmp; rw [WV_bind, W_mV]
  congr 1; funext r1 s1; rw [WV_bind, W_mV]
  congr 1; funext r2 s2; rw [WV_okB]
@[simp] theorem W_bV : WVe E (bV ca ρ st) PE = WVe E (ca ρ st) fun k s => PE (.d (.bool k)) s := by unfold bV; rw [WV_bind]; rfl
@[simp] theorem W_mCal (g : Sto → List Vl → Option Rv) : WVe E (mCal g mas ρ st) PE = WVe E (mas ρ st) fun xs s => WO (g s xs) fun r => PE r s := by
  unfold mCal; rw [WV_bind]
  congr 1; funext xs s
  cases g s xs <;> rfl
@[simp] theorem W_aNil : WVe E (aNil ρ st) PA = PA [] st := rfl
@[simp] theorem W_aCons {mv : En → Sto → Res Vl} {mr : En → Sto → Res (List Vl)} : WVe E (aCons mv mr ρ st) PA = WVe E (mv ρ st) fun x s1 => WVe E (mr ρ s1) fun xs s2 => PA (x :: xs) s2 := by
  unfold aCons; rw [WV_bind]
  congr 1; funext x s1; rw [WV_bind]; rfl
@[simp] theorem W_mTup : WVe E (mTup mas ρ st) PE = WVe E (mas ρ st) fun xs s => WO (allD xs) fun ds => ds.length ≤ sizeLine ∧ PE (.d (.tuple ds)) s := by
  unfold mTup; rw [WV_bind]
  congr 1; funext xs s
  cases h : allD xs with
  | none => rfl
  | some ds =>
    simp only [WO_some]
    by_cases hl : ds.length ≤ sizeLine
    · simp [hl]
    · simp [hl]
@[simp] theorem W_mLst : WVe E (mLst mas ρ st) PE = WVe E (mas ρ st) fun xs s => WO (allD xs) fun ds => ds.length ≤ sizeLine ∧ PE (.n (.l ds)) s := by
  unfold mLst; rw [WV_bind]
  congr 1; funext xs s
  cases h : allD xs with
  | none => rfl
  | some ds =>
    simp only [WO_some]
    by_cases hl : ds.length ≤ sizeLine
    · simp [hl]
    · simp [hl]
@[simp] theorem allD_nil : allD [] = some [] := rfl
@[simp] theorem allD_cons (x : PyData) (r : List Vl) : allD (.d x :: r) = (allD r).map (x :: ·) := by
  show (match allD r with | some xs => some (x :: xs) | none => none) = _
  cases allD r <;> rfl
@[simp] theorem W_eIf : WVe E (eIf ca ma mb ρ st) PE = WVe E (ca ρ st) fun k s => if k = true then WVe E (ma ρ s) PE else WVe E (mb ρ s) PE := by
  unfold eIf; rw [WV_bind]
  congr 1; funext k s
  cases k <;> simp
@[simp] theorem W_mNeg : WVe E (mNeg m ρ st) PE = WVe E (m ρ st) fun r s => WO ((view s (frz r)).bind fNeg) fun d => PE (.d d) s := by
  unfold mNeg; rw [WV_bind, W_mV]
  congr 1; funext r s
  cases (view s (frz r)).bind fNeg <;> rfl
@[simp] theorem W_mTru : WVe E (mTru m ρ st) PB = WVe E (m ρ st) fun r s => WO ((view s (frz r)).bind truD) fun k => PB k s := by
  unfold mTru; rw [WV_bind, W_mV]
  congr 1; funext r s; rw [WV_okB]
@[simp] theorem W_bNot : WVe E (bNot ca ρ st) PB = WVe E (ca ρ st) fun k s => PB (!k) s := by unfold bNot; rw [WV_bind]; rfl
@[simp] theorem W_bAnd : WVe E (bAnd ca cb ρ st) PB = WVe E (ca ρ st) fun k s => if k = true then WVe E (cb ρ s) PB else PB false s := by
  unfold bAnd; rw [WV_bind]
  congr 1; funext k s
  cases k <;> simp
@[simp] theorem W_bOr : WVe E (bOr ca cb ρ st) PB = WVe E (ca ρ st) fun k s => if k = true then PB true s else WVe E (cb ρ s) PB := by
  unfold bOr; rw [WV_bind]
  congr 1; funext k s
  cases k <;> simp
@[simp] theorem W_eNot : WVe E (eNot ma ρ st) PE = WVe E (ma ρ st) fun r s => match frz r with
    | .d (.bool k) => PE (.d (.bool !k)) s
    | _ => False := by
  unfold eNot; rw [WV_bind, W_mV]
  congr 1; funext r s
  split <;> simp_all
@[simp] theorem W_eAnd : WVe E (eAnd ma mb ρ st) PE = WVe E (ma ρ st) fun r s => match frz r with
    | .d (.bool true) => WVe E (mb ρ s) PE
    | .d (.bool false) => PE (.d (.bool false)) s
    | _ => False := by
  unfold eAnd; rw [WV_bind, W_mV]
  congr 1; funext r s
  split <;> simp_all
@[simp] theorem W_eOr : WVe E (eOr ma mb ρ st) PE = WVe E (ma ρ st) fun r s => match frz r with
    | .d (.bool true) => PE (.d (.bool true)) s
    | .d (.bool false) => WVe E (mb ρ s) PE
    | _ => False := by
  unfold eOr; rw [WV_bind, W_mV]
  congr 1; funext r s
  split <;> simp_all
@[simp] theorem W_mJoin : WVe E (mJoin ma mb ρ st) PE = WVe E (ma ρ st) fun r1 s1 => match frz r1 with
    | .d (.str z) => WVe E (mb ρ s1) fun r2 s2 => WO (view s2 (frz r2)) fun y => WO (fJoin (.str z) y) fun r => PE r s2
    | _ => False := by
  unfold mJoin; rw [WV_bind, W_mV]
  congr 1; funext r1 s1
  generalize frz r1 = v1
  cases v1 with
  | d y =>
    cases y with
    | str z =>
      dsimp only
      rw [WV_bind, W_mV]
      congr 1; funext r2 s2
      unfold view2
      simp only [view_d]
      cases view s2 (frz r2) with
      | none => rfl
      | some y => simp only [WO_some]; cases fJoin (.str _) y <;> rfl
    | _ => rfl
  | _ => rfl
/-- after a call: the callee's cells are forgotten -/
def back (n : Nat) (r : Rv) (s : Sto) (P : Rv → Sto → Prop) : Prop := match r with
  | .c i => if i < n then P (.c i) (s.take n) else WO s[i]? fun c => isGone c = false ∧ P (.n c) (s.take n)
  | r => P r (s.take n)
@[simp] theorem back_d (n : Nat) (x : PyData) (s : Sto) (P : Rv → Sto → Prop) : back n (.d x) s P = P (.d x) (s.take n) := rfl
@[simp] theorem back_n (n : Nat) (x : Cl) (s : Sto) (P : Rv → Sto → Prop) : back n (.n x) s P = P (.n x) (s.take n) := rfl
@[simp] theorem back_c (n : Nat) (i : Nat) (s : Sto) (P : Rv → Sto → Prop) : back n (.c i) s P = if i < n then P (.c i) (s.take n) else WO s[i]? fun c => isGone c = false ∧ P (.n c) (s.take n) := rfl
@[simp] theorem gone_l (xs : List PyData) : isGone (.l xs) = false := rfl
@[simp] theorem W_mCall (sem : Fs) : WVe E (mCall sem mas ρ st) PE = WVe E (mas ρ st) fun xs s => WVe (fun e s2 => E e (s2.take st.length)) (sem xs s) fun r s' => back st.length r s' PE := by
  unfold mCall; rw [WV_bind]
  congr 1; funext xs s
  cases sem xs s with
  | no => rfl
  | er e s => rfl
  | ok r s =>
    cases r with
    | d x => rfl
    | s x => rfl
    | o x => rfl
    | n x => rfl
    | c i =>
      unfold gcR back
      by_cases h : i < st.length
      · simp [h]
      · cases q : s[i]? with
        | none => simp [h, q]
        | some c => cases z : isGone c <;> simp [h, q, z]
theorem W_body (n k : Nat) (b : Sv) (args : List Vl) : WVe E (bodyF n k b args st) PE = (args.length = k ∧ WSe E (b (args.map some ++ List.replicate (n - args.length) none) st) (fun _ s => PE (.d .none) s) (fun _ _ => False) (fun _ _ => False) PE) := by
  unfold bodyF
  by_cases h : args.length = k
  · simp only [h, if_true, true_and]
    cases b (args.map some ++ List.replicate (n - k) none) st <;> rfl
  · simp [h]
@[simp] theorem W_oNone {PO : Option Int → Sto → Prop} : WVe E (oNone ρ st) PO = PO none st := rfl
@[simp] theorem W_oSome {PO : Option Int → Sto → Prop} : WVe E (oSome m ρ st) PO = WVe E (m ρ st) fun r s => match frz r with
    | .d (.int i) => PO (some i) s
    | _ => False := by
  unfold oSome; rw [WV_bind, W_mV]
  congr 1; funext r s
  generalize frz r = v
  cases v with
  | d y => cases y <;> rfl
  | _ => rfl
@[simp] theorem W_mSl {ml mh : En → Sto → Res (Option Int)} : WVe E (mSl ma ml mh ρ st) PE = WVe E (ma ρ st) fun r s1 => WVe E (ml ρ s1) fun l s2 => WVe E (mh ρ s2) fun h s3 => WO (view s3 (frz r)) fun d => WO (fSl d l h) fun r => PE r s3 := by
  unfold mSl; rw [WV_bind, W_mV]
  congr 1; funext r s1; rw [WV_bind]
  congr 1; funext l s2; rw [WV_bind]
  congr 1; funext h s3
  cases view s3 (frz r) with
  | none => rfl
  | some d => simp only [WO_some]; cases fSl d l h <;> rfl
@[simp] theorem fSl_t (xs : List PyData) (l h : Option Int) : fSl (.tuple xs) l h = some (.d (.tuple (cutD xs l h))) := rfl
@[simp] theorem fSl_l (xs : List PyData) (l h : Option Int) : fSl (.list xs) l h = some (.n (.l (cutD xs l h))) := rfl
theorem fAll_true (n : Nat) : fAll (.list (List.replicate n (.bool true))) = some (.d (.bool true)) := by
  have e3 : ∀ n, boolsD (List.replicate n (PyData.bool true)) = some (List.replicate n true) := by
    intro n
    induction n with
    | zero => rfl
    | succ n ih => rw [List.replicate_succ]; show (boolsD (List.replicate n (PyData.bool true))).map (true :: ·) = _; rw [ih]; rfl
  show (boolsD _).map (fun ns => Rv.d (.bool (ns.all fun b => b))) = _
  rw [e3]
  simp
/-! ### statements -/
variable {sa sb : Sv}
@[simp] theorem W_sNil : WSe E (sNil ρ st) N B C R = N ρ st := rfl
@[simp] theorem W_sSeq : WSe E (sSeq sa sb ρ st) N B C R = WSe E (sa ρ st) (fun ρ' s => WSe E (sb ρ' s) N B C R) B C R := by
  unfold sSeq
  cases sa ρ st <;> rfl
@[simp] theorem W_sAsg (g : Gm) (mv : En → Sto → Res Vl) : WSe E (sAsg g mv ρ st) N B C R = WVe E (mv ρ st) fun x s => WVe E (g x ρ s) fun ρ' s' => N ρ' s' := by
  unfold sAsg; rw [WS_toS]
  congr 1; funext x s; rw [WS_toS]; rfl
@[simp] theorem W_sRet : WSe E (sRet m ρ st) N B C R = WVe E (m ρ st) R := by unfold sRet; rw [WS_toS]; rfl
@[simp] theorem W_sRetN : WSe E (sRetN ρ st) N B C R = R (.d .none) st := rfl
@[simp] theorem W_sExp : WSe E (sExp m ρ st) N B C R = WVe E (m ρ st) fun _ s => N ρ s := by unfold sExp; rw [WS_toS]; rfl
@[simp] theorem W_sIf : WSe E (sIf ca sa sb ρ st) N B C R = WVe E (ca ρ st) fun k s => if k = true then WSe E (sa ρ s) N B C R else WSe E (sb ρ s) N B C R := by
  unfold sIf; rw [WS_toS]
  congr 1; funext k s
  cases k <;> simp
variable {PR : En → Sto → Prop}
@[simp] theorem W_gNm (i : Nat) (x : Vl) : WVe E (gNm i x ρ st) PR = PR (ρ.set i (some x)) st := rfl
@[simp] theorem W_gTp (n : Nat) (r : Gms) (ds : List PyData) : WVe E (gTp n r (.d (.tuple ds)) ρ st) PR = (ds.length = n ∧ WVe E (r ds ρ st) PR) := by
  unfold gTp
  by_cases h : ds.length = n <;> simp [h]
@[simp] theorem W_gNil : WVe E (gNil9 [] ρ st) PR = PR ρ st := rfl
@[simp] theorem W_gCons (g : Gm) (r : Gms) (d : PyData) (ds : List PyData) : WVe E (gCons9 g r (d :: ds) ρ st) PR = WVe E (g (.d d) ρ st) fun ρ' s => WVe E (r ds ρ' s) PR := by
  show WVe E ((g (.d d) ρ st).bind fun ρ' s => r ds ρ' s) PR = _
  rw [WV_bind]
@[simp] theorem W_gPl (d : PyData) : WVe E (gPl ma mb (.d d) ρ st) PR = WVe E (ma ρ st) fun o s1 => WVe E (mb ρ s1) fun i s2 => match frz o, frz i with
    | .c k, .d (.int j) => (match s2[k]? with
      | some (.l xs) => WO (ixN xs.length j) fun n => PR ρ (s2.set k (.l (xs.set n d)))
      | _ => False)
    | _, _ => False := by
  show WVe E ((mV ma ρ st).bind fun o s1 => (mV mb ρ s1).bind fun i s2 => match o, i with
    | .c k, .d (.int j) => match s2[k]? with
      | some (.l xs) => match ixN xs.length j with
        | some n => .ok ρ (s2.set k (.l (xs.set n d)))
        | none => .no
      | _ => .no
    | _, _ => .no) PR = _
  rw [WV_bind, W_mV]
  congr 1; funext o s1; rw [WV_bind, W_mV]
  congr 1; funext i s2
  generalize frz o = v1
  generalize frz i = v2
  cases v1 with
  | c k =>
    cases v2 with
    | d y =>
      cases y with
      | int j =>
        dsimp only
        cases s2[k]? with
        | none => rfl
        | some c =>
          cases c with
          | m _ => rfl
          | l xs => dsimp only; cases ixN xs.length j <;> rfl
      | _ => rfl
    | _ => rfl
  | _ => rfl
@[simp] theorem W_sPar2 (i j : Nat) : WSe E (sPar [i, j] mas ρ st) N B C R = WVe E (mas ρ st) fun xs s => match xs with
    | [x, y] => N ((ρ.set i (some x)).set j (some y)) s
    | _ => False := by
  unfold sPar; rw [WS_toS]
  congr 1; funext xs s
  match xs with
  | [] => rfl
  | [_] => rfl
  | [_, _] => rfl
  | _ :: _ :: _ :: _ => rfl
@[simp] theorem W_sPar3 (i j l : Nat) : WSe E (sPar [i, j, l] mas ρ st) N B C R = WVe E (mas ρ st) fun xs s => match xs with
    | [x, y, z] => N (((ρ.set i (some x)).set j (some y)).set l (some z)) s
    | _ => False := by
  unfold sPar; rw [WS_toS]
  congr 1; funext xs s
  match xs with
  | [] => rfl
  | [_] => rfl
  | [_, _] => rfl
  | [_, _, _] => rfl
  | _ :: _ :: _ :: _ :: _ => rfl
@[simp] theorem W_mApp : WVe E (mApp ma mb ρ st) PE = WVe E (ma ρ st) fun o s1 => WO (lstAt s1 (frz o)) fun _ => WVe E (mb ρ s1) fun y s2 => match frz o, frz y with
    | .c k, .d d => WO (lstAt s2 (.c k)) fun xs => xs.length < sizeLine ∧ PE (.d .none) (s2.set k (.l (xs ++ [d])))
    | _, _ => False := by
  unfold mApp; rw [WV_bind, W_mV]
  congr 1; funext o s1
  cases h : lstAt s1 (frz o) with
  | none => rfl
  | some zs =>
    simp only [WO_some]
    rw [WV_bind, W_mV]
    congr 1; funext y s2
    cases q1 : frz o with
    | d x => rfl
    | s x => rfl
    | o x => rfl
    | c k =>
      cases q2 : frz y with
      | c x => cases lstAt s2 (.c k) <;> rfl
      | s x => cases lstAt s2 (.c k) <;> rfl
      | o x => cases lstAt s2 (.c k) <;> rfl
      | d d =>
        dsimp only
        cases lstAt s2 (.c k) with
        | none => rfl
        | some xs =>
          simp only [WO_some, fApp]
          by_cases hl : xs.length < sizeLine <;> simp [hl]
@[simp] theorem W_mExt : WVe E (mExt ma mb ρ st) PE = WVe E (ma ρ st) fun o s1 => WO (lstAt s1 (frz o)) fun _ => WVe E (mb ρ s1) fun y s2 => match frz o with
    | .c k => WO (lstAt s2 (.c k)) fun xs => WO (view s2 (frz y)) fun d => WO (fExt xs d) fun zs => PE (.d .none) (s2.set k (.l zs))
    | _ => False := by
  unfold mExt; rw [WV_bind, W_mV]
  congr 1; funext o s1
  cases h : lstAt s1 (frz o) with
  | none => rfl
  | some zs =>
    simp only [WO_some]
    rw [WV_bind, W_mV]
    congr 1; funext y s2
    cases q1 : frz o with
    | d x => rfl
    | s x => rfl
    | o x => rfl
    | c k =>
      dsimp only
      cases lstAt s2 (.c k) with
      | none => rfl
      | some xs =>
        simp only [WO_some]
        cases view s2 (frz y) with
        | none => rfl
        | some d => simp only [WO_some]; cases fExt xs d <;> rfl
@[simp] theorem lstAt_c (k : Nat) : lstAt st (.c k) = match st[k]? with
  | some (.l xs) => some xs
  | _ => none := rfl
/-! ### iterations -/
variable {PI : Src → Sto → Prop}
@[simp] theorem W_iOf : WVe E (iOf m ρ st) PI = WVe E (m ρ st) fun r s => WO (srcOf s (frz r)) fun dg => PI dg s := by
  unfold iOf; rw [WV_bind, W_mV]
  congr 1; funext r s; rw [WV_okO]
@[simp] theorem W_iEn : WVe E (iEn mas ρ st) PI = WVe E (mas ρ st) fun xs s => WO (srcEn s xs) fun dg => PI dg s := by
  unfold iEn; rw [WV_bind]
  congr 1; funext xs s; rw [WV_okO]
@[simp] theorem W_iRg1 : WVe E (iRg1 mas ρ st) PI = WVe E (mas ρ st) fun xs s => WO (oneI xs) fun j => rOk 0 j = true ∧ PI (rngD 0 j, none) s := by
  unfold iRg1; rw [WV_bind]
  congr 1; funext xs s
  cases oneI xs with
  | none => rfl
  | some j =>
    simp only [WO_some]
    by_cases hl : rOk 0 j = true <;> simp [hl]
@[simp] theorem W_iRg2 : WVe E (iRg2 mas ρ st) PI = WVe E (mas ρ st) fun xs s => WO (twoI xs) fun j => rOk j.1 j.2 = true ∧ PI (rngD j.1 j.2, none) s := by
  unfold iRg2; rw [WV_bind]
  congr 1; funext xs s
  cases twoI xs with
  | none => rfl
  | some j =>
    simp only [WO_some]
    by_cases hl : rOk j.1 j.2 = true <;> simp [hl]
/-- a loop, by what stands at each turn -/
theorem forGo_by {g : Gm} {b : Sv} {gd : Option (Nat × List PyData)} {all : List PyData} (I : Nat → En → Sto → Prop) (ds : List PyData) (j : Nat) (h0 : I j ρ st) (hg : ∀ i ρ s, I i ρ s → Grd gd all s)
    (hs : ∀ (i : Nat) (d : PyData) (ρ : En) (s : Sto), ds[i]? = some d → I (j + i) ρ s → WVe E (g (.d d) ρ s) fun ρ1 s1 => WSe E (b ρ1 s1) (I (j + i + 1)) N (I (j + i + 1)) R) (he : ∀ ρ s, I (j + ds.length) ρ s → N ρ s) :
    WSe E (forGo g b gd all ds ρ st) N B C R := by
  induction ds generalizing j ρ st with
  | nil =>
    unfold forGo
    rw [if_pos (hg _ _ _ h0)]
    exact he _ _ h0
  | cons d r ih =>
    unfold forGo
    rw [if_pos (hg _ _ _ h0), WS_toS]
    refine WV_mono (hs 0 d ρ st rfl h0) fun ρ1 s1 h1 => ?_
    have next : ∀ ρ2 s2, I (j + 1) ρ2 s2 → WSe E (forGo g b gd all r ρ2 s2) N B C R := fun ρ2 s2 h2 => ih (j + 1) h2 (fun i d ρ s e h => by
      have := hs (i + 1) d ρ s (by simpa using e) (by rw [show j + (i + 1) = j + 1 + i by omega]; exact h)
      rw [show j + (i + 1) + 1 = j + 1 + i + 1 by omega] at this
      exact this) fun ρ s h => he ρ s (by rw [List.length_cons, show j + (r.length + 1) = j + 1 + r.length by omega]; exact h)
    cases q : b ρ1 s1 with
    | nx ρ2 s2 => rw [q] at h1; exact next _ _ h1
    | ct ρ2 s2 => rw [q] at h1; exact next _ _ h1
    | bk ρ2 s2 => rw [q] at h1; exact h1
    | rt v s2 => rw [q] at h1; exact h1
    | er x s2 => rw [q] at h1; exact h1
    | no => rw [q] at h1; exact h1
@[simp] theorem W_sFor (mi : En → Sto → Res Src) (g : Gm) (b : Sv) : WSe E (sFor mi g b ρ st) N B C R = WVe E (mi ρ st) fun dg s => WSe E (forGo g b dg.2 dg.1 dg.1 ρ s) N B C R := by
  unfold sFor; rw [WS_toS]
theorem lcGo_by {g : Gm} {tt : En → Sto → Res Bool} {te : Ev} {gd : Option (Nat × List PyData)} {all : List PyData} {P : List PyData → Sto → Prop} (I : Nat → Sto → List PyData → Prop) (ds : List PyData) (j : Nat) (acc : List PyData) (h0 : I j st acc) (hg : ∀ i s a, I i s a → Grd gd all s)
    (hs : ∀ (i : Nat) (d : PyData) (s : Sto) (a : List PyData), ds[i]? = some d → I (j + i) s a → WVe noE (g (.d d) ρ s) fun ρ1 s1 => WVe noE (tt ρ1 s1) fun k s2 => if k = true then WVe noE (te ρ1 s2) fun r s3 => ∃ y, frz r = .d y ∧ a.length < sizeLine ∧ I (j + i + 1) s3 (a ++ [y]) else I (j + i + 1) s2 a)
    (he : ∀ s a, I (j + ds.length) s a → P a s) : WVe E (lcGo g tt te gd all ρ ds st acc) P := by
  induction ds generalizing j st acc with
  | nil =>
    unfold lcGo
    rw [if_pos (hg _ _ _ h0)]
    exact he _ _ h0
  | cons d r ih =>
    unfold lcGo
    rw [if_pos (hg _ _ _ h0)]
    have h1 := hs 0 d st acc rfl h0
    have next : ∀ s2 a2, I (j + 1) s2 a2 → WVe E (lcGo g tt te gd all ρ r s2 a2) P := fun s2 a2 h2 => ih (j + 1) a2 h2 (fun i d s a e h => by
      have := hs (i + 1) d s a (by simpa using e) (by rw [show j + (i + 1) = j + 1 + i by omega]; exact h)
      rw [show j + (i + 1) + 1 = j + 1 + i + 1 by omega] at this
      exact this) fun s a h => he s a (by rw [List.length_cons, show j + (r.length + 1) = j + 1 + r.length by omega]; exact h)
    cases q : g (.d d) ρ st with
    | ok ρ1 s1 =>
      rw [q, WV_ok] at h1
      simp only []
      cases q2 : tt ρ1 s1 with
      | ok k s2 =>
        rw [q2, WV_ok] at h1
        cases k with
        | false => simp only [Bool.false_eq_true, if_false] at h1; exact next _ _ h1
        | true =>
          simp only [if_true] at h1
          cases q3 : te ρ1 s2 with
          | ok rr s3 =>
            rw [q3, WV_ok] at h1
            obtain ⟨y, e1, e2, e3⟩ := h1
            have e4 : mV te ρ1 s2 = .ok (.d y) s3 := by unfold mV; rw [q3]; show Res.ok (frz rr) s3 = _; rw [e1]
            simp only [e4, if_pos e2]
            exact next _ _ e3
          | er x s2 => rw [q3] at h1; exact False.elim h1
          | no => rw [q3] at h1; exact False.elim h1
      | er x s2 => rw [q2] at h1; exact False.elim h1
      | no => rw [q2] at h1; exact False.elim h1
    | er x s2 => rw [q] at h1; exact False.elim h1
    | no => rw [q] at h1; exact False.elim h1
/-- a written list, item by item -/
theorem lcGo_c {g : Gm} {tt : En → Sto → Res Bool} {te : Ev} {all : List PyData} {P : List PyData → Sto → Prop} {d : PyData} {r acc : List PyData} :
    WVe E (lcGo g tt te none all ρ (d :: r) st acc) P = WVe noE (g (.d d) ρ st) fun ρ1 s1 => WVe noE (tt ρ1 s1) fun k s2 => if k = true then WVe noE (te ρ1 s2) fun r0 s3 => (match frz r0 with
      | .d y => acc.length < sizeLine ∧ WVe E (lcGo g tt te none all ρ r s3 (acc ++ [y])) P
      | _ => False) else WVe E (lcGo g tt te none all ρ r s2 acc) P := by
  rw [lcGo]
  rw [if_pos (show Grd none all st from trivial)]
  cases g (.d d) ρ st with
  | ok ρ1 s1 =>
    simp only [WV_ok]
    cases tt ρ1 s1 with
    | ok k s2 =>
      simp only [WV_ok]
      cases k with
      | false => rfl
      | true =>
        simp only [if_true]
        cases q : te ρ1 s2 with
        | ok rr s3 =>
          have e : mV te ρ1 s2 = .ok (frz rr) s3 := by unfold mV; rw [q]
          simp only [e, WV_ok]
          cases frz rr with
          | d y => by_cases h : acc.length < sizeLine <;> simp [h]
          | c y => rfl
          | s y => rfl
          | o y => rfl
        | er x s3 =>
          have e : mV te ρ1 s2 = .er x s3 := by unfold mV; rw [q]
          simp only [e]; rfl
        | no =>
          have e : mV te ρ1 s2 = .no := by unfold mV; rw [q]
          simp only [e]; rfl
    | er _ _ => rfl
    | no => rfl
  | er _ _ => rfl
  | no => rfl
theorem lcGo_n {g : Gm} {tt : En → Sto → Res Bool} {te : Ev} {all : List PyData} {P : List PyData → Sto → Prop} {acc : List PyData} : WVe E (lcGo g tt te none all ρ [] st acc) P = P acc st := by
  rw [lcGo, if_pos (show Grd none all st from trivial)]; rfl
theorem forGo_n {g : Gm} {b : Sv} {all : List PyData} : WSe E (forGo g b none all [] ρ st) N B C R = N ρ st := by
  rw [forGo, if_pos (show Grd none all st from trivial)]; rfl
theorem forGo_c {g : Gm} {b : Sv} {all r : List PyData} {d : PyData} : WSe E (forGo g b none all (d :: r) ρ st) N B C R = WVe E (g (.d d) ρ st) fun ρ1 s1 => WSe E (b ρ1 s1) (fun ρ2 s2 => WSe E (forGo g b none all r ρ2 s2) N B C R) N (fun ρ2 s2 => WSe E (forGo g b none all r ρ2 s2) N B C R) R := by
  rw [forGo, if_pos (show Grd none all st from trivial), WS_toS]
  congr 1; funext ρ1 s1
  cases b ρ1 s1 <;> rfl
@[simp] theorem W_mLc (mi : En → Sto → Res Src) (g : Gm) (tt : En → Sto → Res Bool) (te : Ev) (vs : List Nat) : WVe E (mLc mi g tt te vs ρ st) PE = WVe E (mi ρ st) fun dg s => WVe E (lcGo g tt te dg.2 dg.1 (wipeE ρ vs) dg.1 s []) fun ys s' => PE (.n (.l ys)) s' := by
  unfold mLc; rw [WV_bind]
  congr 1; funext dg s; rw [WV_bind]; rfl
theorem lc2Go_by {g g1 : Gm} {tt tt1 : En → Sto → Res Bool} {mi1 : En → Sto → Res Src} {te : Ev} {vs1 : List Nat} {gd : Option (Nat × List PyData)} {all : List PyData} {P : List PyData → Sto → Prop} (I : Nat → Sto → List PyData → Prop) (ds : List PyData) (j : Nat) (acc : List PyData) (h0 : I j st acc) (hg : ∀ i s a, I i s a → Grd gd all s)
    (hs : ∀ (i : Nat) (d : PyData) (s : Sto) (a : List PyData), ds[i]? = some d → I (j + i) s a → WVe noE (g (.d d) ρ s) fun ρ1 s1 => WVe noE (tt ρ1 s1) fun k s2 => if k = true then WVe noE (mi1 ρ1 s2) fun dg s3 => WVe noE (lcGo g1 tt1 te dg.2 dg.1 (wipeE ρ1 vs1) dg.1 s3 a) fun a' s4 => I (j + i + 1) s4 a' else I (j + i + 1) s2 a)
    (he : ∀ s a, I (j + ds.length) s a → P a s) : WVe E (lc2Go g tt mi1 g1 tt1 te gd all vs1 ρ ds st acc) P := by
  induction ds generalizing j st acc with
  | nil =>
    unfold lc2Go
    rw [if_pos (hg _ _ _ h0)]
    exact he _ _ h0
  | cons d r ih =>
    unfold lc2Go
    rw [if_pos (hg _ _ _ h0)]
    have h1 := hs 0 d st acc rfl h0
    have next : ∀ s2 a2, I (j + 1) s2 a2 → WVe E (lc2Go g tt mi1 g1 tt1 te gd all vs1 ρ r s2 a2) P := fun s2 a2 h2 => ih (j + 1) a2 h2 (fun i d s a e h => by
      have := hs (i + 1) d s a (by simpa using e) (by rw [show j + (i + 1) = j + 1 + i by omega]; exact h)
      rw [show j + (i + 1) + 1 = j + 1 + i + 1 by omega] at this
      exact this) fun s a h => he s a (by rw [List.length_cons, show j + (r.length + 1) = j + 1 + r.length by omega]; exact h)
    cases q : g (.d d) ρ st with
    | ok ρ1 s1 =>
      rw [q, WV_ok] at h1
      simp only []
      cases q2 : tt ρ1 s1 with
      | ok k s2 =>
        rw [q2, WV_ok] at h1
        cases k with
        | false => simp only [Bool.false_eq_true, if_false] at h1; exact next _ _ h1
        | true =>
          simp only [if_true] at h1
          cases q3 : mi1 ρ1 s2 with
          | ok dg s3 =>
            rw [q3, WV_ok] at h1
            cases q4 : lcGo g1 tt1 te dg.2 dg.1 (wipeE ρ1 vs1) dg.1 s3 acc with
            | ok a' s4 => rw [q4, WV_ok] at h1; simp only [q3, q4]; exact next _ _ h1
            | er x s2 => rw [q4] at h1; exact False.elim h1
            | no => rw [q4] at h1; exact False.elim h1
          | er x s2 => rw [q3] at h1; exact False.elim h1
          | no => rw [q3] at h1; exact False.elim h1
      | er x s2 => rw [q2] at h1; exact False.elim h1
      | no => rw [q2] at h1; exact False.elim h1
    | er x s2 => rw [q] at h1; exact False.elim h1
    | no => rw [q] at h1; exact False.elim h1
@[simp] theorem W_mLc2 (mi : En → Sto → Res Src) (g : Gm) (tt : En → Sto → Res Bool) (mi1 : En → Sto → Res Src) (g1 : Gm) (tt1 : En → Sto → Res Bool) (te : Ev) (vs vs1 : List Nat) : WVe E (mLc2 mi g tt mi1 g1 tt1 te vs vs1 ρ st) PE = WVe E (mi ρ st) fun dg s => WVe E (lc2Go g tt mi1 g1 tt1 te dg.2 dg.1 vs1 (wipeE ρ vs) dg.1 s []) fun ys s' => PE (.n (.l ys)) s' := by
  unfold mLc2; rw [WV_bind]
  congr 1; funext dg s; rw [WV_bind]; rfl
@[simp] theorem W_ttY : WVe E (ttY ρ st) PB = PB true st := rfl
@[simp] theorem W_mLr (mi : En → Sto → Res (Int × Int)) : WVe E (mLr mi ρ st) PE = WVe E (mi ρ st) fun ij s => (rOk ij.1 ij.2 = true ∧ (ij.2 - ij.1).toNat ≤ 2 ^ 24) ∧ PE (.n (.l (rngD ij.1 ij.2))) s := by
  unfold mLr; rw [WV_bind]
  congr 1; funext ij s
  by_cases h : rOk ij.1 ij.2 = true ∧ (ij.2 - ij.1).toNat ≤ 2 ^ 24
  · rw [if_pos h]; simp [h]
  · rw [if_neg h]; exact propext ⟨fun z => False.elim z, fun z => h z.1⟩
/-! ### operators at ints, texts -/
@[simp] theorem fAdd_i (i j : Int) : fAdd (.int i) (.int j) = some (.d (.int (i + j))) := rfl
@[simp] theorem fAdd_s (i j : Str) : fAdd (.str i) (.str j) = if i.length + j.length ≤ sizeLine then some (.d (.str (i ++ j))) else none := rfl
@[simp] theorem fAdd_t (i j : List PyData) : fAdd (.tuple i) (.tuple j) = if i.length + j.length ≤ sizeLine then some (.d (.tuple (i ++ j))) else none := rfl
@[simp] theorem fAdd_l (i j : List PyData) : fAdd (.list i) (.list j) = if i.length + j.length ≤ sizeLine then some (.n (.l (i ++ j))) else none := rfl
@[simp] theorem fI_i (p : Int → Int → Bool) (g : Int → Int → Int) (i j : Int) : fI p g (.int i) (.int j) = if p i j = true then some (.d (.int (g i j))) else none := rfl
@[simp] theorem fMulA_i (i j : Int) : fMulA (.int i) (.int j) = if pMul i j = true then some (.d (.int (i * j))) else none := by
  show (match (if pMul i j = true then some (Rv.d (.int (i * j))) else none) with | some z => some z | none => none) = _
  by_cases h : pMul i j = true <;> simp [h]
@[simp] theorem fMulA_s (i : Str) (k : Int) : fMulA (.str i) (.int k) = if -(2 ^ 63) ≤ k ∧ k < 2 ^ 63 ∧ i.length * k.toNat ≤ sizeLine then some (.d (.str (Txt.mul i k))) else none := rfl
@[simp] theorem fIx_l (xs : List PyData) (i : Int) : fIx (.list xs) (.int i) = (atI xs i).map .d := rfl
@[simp] theorem fIx_t (xs : List PyData) (i : Int) : fIx (.tuple xs) (.int i) = (atI xs i).map .d := rfl
@[simp] theorem g1_d (f : PyData → Option Rv) (x : PyData) : g1 f st [.d x] = f x := rfl
@[simp] theorem g1_c (f : PyData → Option Rv) (i : Nat) : g1 f st [.c i] = (view st (.c i)).bind f := by
  show (match view st (.c i) with | some d => f d | none => none) = _
  cases view st (.c i) <;> rfl
@[simp] theorem gLen_s (ns : List Int) : gLen st [.s ns] = some (.d (.int ns.length)) := rfl
@[simp] theorem gLen_d (d : PyData) : gLen st [.d d] = fLen d := rfl
@[simp] theorem gLen_c (i : Nat) : gLen st [.c i] = (view st (.c i)).bind fLen := g1_c fLen i
@[simp] theorem fLen_l (xs : List PyData) : fLen (.list xs) = some (.d (.int xs.length)) := rfl
@[simp] theorem fLen_t (xs : List PyData) : fLen (.tuple xs) = some (.d (.int xs.length)) := rfl
@[simp] theorem gII_i (f : Int → Int → Int) (i j : Int) : gII f st [.d (.int i), .d (.int j)] = some (.d (.int (f i j))) := rfl
@[simp] theorem fAbs_i (i : Int) : fAbs (.int i) = some (.d (.int (if i < 0 then -i else i))) := rfl
@[simp] theorem fInt_i (i : Int) : fInt (.int i) = some (.d (.int i)) := rfl
@[simp] theorem fInt_b (i : Bool) : fInt (.bool i) = some (.d (.int (if i then 1 else 0))) := rfl
/-- the text of an int -/
def txI (i : Int) : Str := Str.ofString (toString i)
@[simp] theorem fStr_i (i : Int) : fStr (.int i) = if i.natAbs.log2 < 1920 then some (.d (.str (txI i))) else none := rfl
@[simp] theorem fTuple_l (xs : List PyData) : fTuple (.list xs) = some (.d (.tuple xs)) := rfl
@[simp] theorem fTuple_t (xs : List PyData) : fTuple (.tuple xs) = some (.d (.tuple xs)) := rfl
@[simp] theorem fList_l (xs : List PyData) : fList (.list xs) = some (.n (.l xs)) := rfl
@[simp] theorem fList_t (xs : List PyData) : fList (.tuple xs) = some (.n (.l xs)) := rfl
@[simp] theorem fNeg_i (i : Int) : fNeg (.int i) = some (.int (-i)) := rfl
@[simp] theorem gI_i (p : Int → Int → Bool) (i j : Int) : gI p (.int i) (.int j) = some (p i j) := rfl
theorem cmp2_of {g : PyData → PyData → Option Bool} {x y : Vl} {a b : PyData} (h1 : view st x = some a) (h2 : view st y = some b) : cmp2 g st x y = g a b := by
  unfold cmp2; rw [h1, h2]
@[simp] theorem cmp2_dd (g : PyData → PyData → Option Bool) (a b : PyData) : cmp2 g st (.d a) (.d b) = g a b := rfl
@[simp] theorem oneI_i (j : Int) : oneI [.d (.int j)] = some j := rfl
@[simp] theorem twoI_i (i j : Int) : twoI [.d (.int i), .d (.int j)] = some (i, j) := rfl
@[simp] theorem srcOf_l (xs : List PyData) : srcOf st (.d (.list xs)) = some (xs, none) := rfl
@[simp] theorem srcOf_t (xs : List PyData) : srcOf st (.d (.tuple xs)) = some (xs, none) := rfl
@[simp] theorem srcEn_l (xs : List PyData) : srcEn st [.d (.list xs)] = some (enumF 0 xs, none) := rfl
@[simp] theorem srcEn_t (xs : List PyData) : srcEn st [.d (.tuple xs)] = some (enumF 0 xs, none) := rfl
@[simp] theorem Grd_none (ds : List PyData) : Grd none ds st = True := rfl
@[simp] theorem atI_zero {α : Type} (x : α) (xs : List α) : atI (x :: xs) 0 = some x := by
  unfold atI ixN
  simp
theorem atI_at {α : Type} {xs : List α} {i : Int} {k : Nat} (h : i = (k : Nat)) (hk : k < xs.length) : atI xs i = xs[k]? := by
  subst h
  unfold atI ixN
  rw [if_pos (by omega), if_pos (by omega)]
  rfl
theorem pMul_of {i j : Int} {a b : Nat} (hi : i.natAbs < 2 ^ a) (hj : j.natAbs < 2 ^ b) (hab : a + b < 1000000) : pMul i j = true := by
  have lg : ∀ (n k : Nat), n < 2 ^ k → n.log2 ≤ k := fun n k h => by
    by_cases hn : n = 0
    · subst hn; simp
    · exact Nat.le_of_lt ((Nat.log2_lt hn).mpr h)
  unfold pMul
  have := lg _ _ hi
  have := lg _ _ hj
  exact decide_eq_true (by omega)
end
end Cp
/-! Cu: the laws' urn: made, drawn from. -/
namespace Cp
open PySem L2
noncomputable def sbU_urn : Sv := (sSeq (sAsg (gNm 2) (mV (mBin fAdd (mBin fMulA (mK (.int 13)) (mN 1)) (mK (.int 5))))) (sSeq (sIf (mCmp (gI fun i j => decide (i < j)) (mN 1) (mCal (gLen) (aCons (mV (mN 0)) aNil))) (sAsg (gNm 2) (mV (mSix (mN 0) (mN 1)))) sNil) (sSeq (sAsg (gNm 3) (mV (mBin fMulA (mBin (fI pPos fun i j => i % j) (mCal (g1 fAbs) (aCons (mV (mN 2)) aNil)) (mBin (fI pPow fun i j => i ^ j.toNat) (mBin (fI pPow fun i j => i ^ j.toNat) (mK (.int 10)) (mK (.int 60))) (mK (.int 5)))) (mCal (g1 fInt) (aCons (mV (bV (mCmp (gI fun i j => decide (j ≤ i)) (mCal (g1 fAbs) (aCons (mV (mN 2)) aNil)) (mBin (fI pPow fun i j => i ^ j.toNat) (mK (.int 10)) (mK (.int 18)))))) aNil))))) (sRet (mLst (aCons (mV (mN 3)) (aCons (mV (mBin (fI pPos fun i j => i % j) (mBin fAdd (mBin fAdd (mBin fMulA (mBin (fI pPos fun i j => i % j) (mN 2) (mK (.int 2305843009213693951))) (mK (.int 69859))) (mBin fMulA (mBin fMulA (mK (.int 5003)) (mN 1)) (mN 1))) (mK (.int 83))) (mK (.int 2305843009213693907)))) (aCons (mV (mK (.int 0))) aNil))))))))
noncomputable def semU_urn : Fs := bodyF 4 2 sbU_urn
noncomputable def sbU_next : Sv := (sSeq (sIf (mCmp (gI fun i j => decide (j < i)) (mBin fIx (mN 0) (mK (.int 0))) (mK (.int 0))) (sSeq (sAsg (gNm 2) (mV (mBin (fI pPos fun i j => i % j) (mBin fIx (mN 0) (mK (.int 0))) (mN 1)))) (sSeq (sAsg (gPl (mN 0) (mK (.int 0))) (mV (mBin (fI pDiv fun i j => i / j) (mBin fIx (mN 0) (mK (.int 0))) (mN 1)))) (sRet (mN 2)))) sNil) (sSeq (sAsg (gPl (mN 0) (mK (.int 2))) (mV (mBin fAdd (mBin fIx (mN 0) (mK (.int 2))) (mK (.int 1))))) (sSeq (sAsg (gNm 3) (mV (mBin (fI pPos fun i j => i % j) (mBin fMulA (mBin fAdd (mBin fAdd (mBin fIx (mN 0) (mK (.int 1))) (mBin fMulA (mBin fMulA (mK (.int 30011)) (mBin fIx (mN 0) (mK (.int 2)))) (mBin fIx (mN 0) (mK (.int 2))))) (mK (.int 19))) (mK (.int 69877))) (mK (.int 2305843009213693921))))) (sSeq (sAsg (gNm 3) (mV (mBin (fI pPos fun i j => i % j) (mBin fMulA (mN 3) (mBin fAdd (mBin fAdd (mBin (fI pPos fun i j => i % j) (mN 3) (mK (.int 1000039))) (mBin fMulA (mK (.int 60013)) (mBin fIx (mN 0) (mK (.int 2))))) (mK (.int 5)))) (mK (.int 2305843009213693951))))) (sRet (mBin (fI pPos fun i j => i % j) (mBin fAdd (mBin (fI pDiv fun i j => i / j) (mN 3) (mK (.int 103))) (mBin (fI pDiv fun i j => i / j) (mN 3) (mK (.int 999979)))) (mN 1)))))))
noncomputable def semU_next : Fs := bodyF 4 2 sbU_next
noncomputable def sbU_of : Sv := (sRet (mBin fIx (mN 1) (mCall semU_next (aCons (mVc (mN 0)) (aCons (mV (mCal (gLen) (aCons (mV (mN 1)) aNil))) aNil)))))
noncomputable def semU_of : Fs := bodyF 2 2 sbU_of
/-- an urn: what is left of the script's own digits, the seed, the turns -/
def urn (a b c : Int) : Cl := .l [.int a, .int b, .int c]
/-- an urn that has been drawn from at most n times -/
def Urn (n : Int) (u : Cl) : Prop := ∃ a b c : Int, u = urn a b c ∧ 0 ≤ a ∧ 0 ≤ b ∧ b < 2 ^ 61 ∧ 0 ≤ c ∧ c ≤ n
theorem Urn.mono {n m : Int} {u : Cl} (h : Urn n u) (k : n ≤ m) : Urn m u := by
  obtain ⟨a, b, c, h1, h2, h3, h4, h5, h6⟩ := h
  exact ⟨a, b, c, h1, h2, h3, h4, h5, Int.le_trans h6 k⟩
section
variable {st : Sto} {P : Rv → Sto → Prop}
theorem own_small (x : Int) (hx : 0 ≤ x) : (x % ((10 ^ 60) ^ 5 : Int)).natAbs < 2 ^ 1000 := by
  have h1 := Int.emod_lt_of_pos x (show (0 : Int) < (10 ^ 60) ^ 5 by decide)
  have h2 := Int.emod_nonneg x (show ((10 ^ 60) ^ 5 : Int) ≠ 0 by decide)
  have h3 : ((10 ^ 60) ^ 5 : Int) < ((2 ^ 1000 : Nat) : Int) := by decide +kernel
  have h4 : ((x % ((10 ^ 60) ^ 5 : Int)).natAbs : Int) < ((2 ^ 1000 : Nat) : Int) := by rw [Int.natAbs_of_nonneg h2]; exact Int.lt_trans h1 h3
  exact Int.ofNat_lt.mp h4
theorem w_urn_fin {cell k : Int} (hk : 0 ≤ k) (hk2 : k ≤ 63) (h : ∀ u, Urn 0 u → P (.n u) st) : pPow 10 60 = true ∧ pPow 1000000000000000000000000000000000000000000000000000000000000 5 = true ∧
    pPos (if cell < 0 then -cell else cell) 1000000000000000000000000000000000000000000000000000000000000000000000000000000000000000000000000000000000000000000000000000000000000000000000000000000000000000000000000000000000000000000000000000000000000000000000000000000000000000000000000000000000000000000000000000000000000000000000000000000000000 = true ∧ pPow 10 18 = true ∧
    pMul ((if cell < 0 then -cell else cell) % 1000000000000000000000000000000000000000000000000000000000000000000000000000000000000000000000000000000000000000000000000000000000000000000000000000000000000000000000000000000000000000000000000000000000000000000000000000000000000000000000000000000000000000000000000000000000000000000000000000000000000)
      (if 1000000000000000000 ≤ if cell < 0 then -cell else cell then 1 else 0) = true ∧ pPos cell 2305843009213693951 = true ∧ pMul (cell % 2305843009213693951) 69859 = true ∧ pMul 5003 k = true ∧ pMul (5003 * k) k = true ∧
    pPos (cell % 2305843009213693951 * 69859 + 5003 * k * k + 83) 2305843009213693907 = true ∧ 3 ≤ sizeLine ∧
    P (Rv.n (Cl.l [PyData.int ((if cell < 0 then -cell else cell) % 1000000000000000000000000000000000000000000000000000000000000000000000000000000000000000000000000000000000000000000000000000000000000000000000000000000000000000000000000000000000000000000000000000000000000000000000000000000000000000000000000000000000000000000000000000000000000000000000000000000000000 *
        if 1000000000000000000 ≤ if cell < 0 then -cell else cell then 1 else 0),
      PyData.int ((cell % 2305843009213693951 * 69859 + 5003 * k * k + 83) % 2305843009213693907), PyData.int 0])) st := by
  have hx : (0 : Int) ≤ if cell < 0 then -cell else cell := by split <;> omega
  have ho := own_small _ hx
  have e1 : ((10 ^ 60) ^ 5 : Int) = 1000000000000000000000000000000000000000000000000000000000000000000000000000000000000000000000000000000000000000000000000000000000000000000000000000000000000000000000000000000000000000000000000000000000000000000000000000000000000000000000000000000000000000000000000000000000000000000000000000000000000 := by decide +kernel
  rw [e1] at ho
  have hn := Int.emod_nonneg (if cell < 0 then -cell else cell) (show (1000000000000000000000000000000000000000000000000000000000000000000000000000000000000000000000000000000000000000000000000000000000000000000000000000000000000000000000000000000000000000000000000000000000000000000000000000000000000000000000000000000000000000000000000000000000000000000000000000000000000 : Int) ≠ 0 by decide)
  generalize (if cell < 0 then -cell else cell) % 1000000000000000000000000000000000000000000000000000000000000000000000000000000000000000000000000000000000000000000000000000000000000000000000000000000000000000000000000000000000000000000000000000000000000000000000000000000000000000000000000000000000000000000000000000000000000000000000000000000000000 = own at ho hn ⊢
  have hm : (if 1000000000000000000 ≤ if cell < 0 then -cell else cell then (1 : Int) else 0) = 0 ∨ (if 1000000000000000000 ≤ if cell < 0 then -cell else cell then (1 : Int) else 0) = 1 := by
    by_cases hh : 1000000000000000000 ≤ if cell < 0 then -cell else cell
    · exact .inr (if_pos hh)
    · exact .inl (if_neg hh)
  generalize (if 1000000000000000000 ≤ if cell < 0 then -cell else cell then (1 : Int) else 0) = bit at hm ⊢
  have c1 := Int.emod_lt_of_pos cell (show (0 : Int) < 2305843009213693951 by decide)
  have c2 := Int.emod_nonneg cell (show (2305843009213693951 : Int) ≠ 0 by decide)
  have d1 := Int.emod_lt_of_pos (cell % 2305843009213693951 * 69859 + 5003 * k * k + 83) (show (0 : Int) < 2305843009213693907 by decide)
  have d2 := Int.emod_nonneg (cell % 2305843009213693951 * 69859 + 5003 * k * k + 83) (show (2305843009213693907 : Int) ≠ 0 by decide)
  refine ⟨by decide +kernel, by decide +kernel, rfl, by decide +kernel, pMul_of (a := 1000) (b := 1) ho (by omega) (by decide), rfl, pMul_of (a := 70) (b := 20) (by omega) (by decide) (by decide), pMul_of (a := 20) (b := 20) (by decide) (by omega) (by decide), pMul_of (a := 40) (b := 20) (by omega) (by omega) (by decide), rfl, by decide, h _ ⟨_, _, 0, rfl, ?_, d2, ?_, Int.le_refl _, Int.le_refl _⟩⟩
  · rcases hm with e | e <;> rw [e] <;> omega
  · exact Int.lt_trans d1 (by decide)
theorem w_urn {ns : List Int} {k : Int} (hk : 0 ≤ k) (hk2 : k ≤ 63) (h : ∀ u, Urn 0 u → P (.n u) st) : WVe noE (semU_urn [.s ns, .d (.int k)] st) P := by
  obtain ⟨j, rfl⟩ : ∃ j : Nat, k = (j : Nat) := ⟨k.toNat, by omega⟩
  unfold semU_urn sbU_urn
  rw [W_body]
  simp
  refine ⟨pMul_of (a := 10) (b := 10) (by omega) (by omega) (by decide), ?_⟩
  split
  · rename_i hl
    have hj : j < ns.length := by omega
    rw [atI_at rfl hj, List.getElem?_eq_getElem hj, WO_some]
    generalize ns[j] = cell
    exact w_urn_fin hk hk2 h
  · exact w_urn_fin hk hk2 h
@[simp] theorem atI_one {α : Type} (x y : α) (xs : List α) : atI (x :: y :: xs) 1 = some y := by
  have := atI_at (xs := x :: y :: xs) (i := 1) (k := 1) rfl (by simp)
  exact this
@[simp] theorem atI_two {α : Type} (x y z : α) (xs : List α) : atI (x :: y :: z :: xs) 2 = some z := by
  have := atI_at (xs := x :: y :: z :: xs) (i := 2) (k := 2) rfl (by simp)
  exact this
@[simp] theorem ixN30 : ixN 3 0 = some 0 := rfl
@[simp] theorem ixN31 : ixN 3 1 = some 1 := rfl
@[simp] theorem ixN32 : ixN 3 2 = some 2 := rfl
theorem WO_atI {xs : List PyData} {i : Int} {P : PyData → Prop} (h0 : 0 ≤ i) (h1 : i < xs.length) (h : ∀ (k : Nat) (d : PyData), i = (k : Nat) → xs[k]? = some d → P d) : WO (atI xs i) P := by
  obtain ⟨k, rfl⟩ : ∃ k : Nat, i = (k : Nat) := ⟨i.toNat, by omega⟩
  have hk : k < xs.length := by omega
  rw [atI_at rfl hk, List.getElem?_eq_getElem hk]
  exact h k _ rfl (List.getElem?_eq_getElem hk)
theorem w_next {i : Nat} {n : Int} {u : Cl} {m : Int} (hu : st[i]? = some u) (hU : Urn m u) (hm : m < 2 ^ 200) (hn : 0 < n) (hn2 : n < 2 ^ 200) (h : ∀ (r : Int) (u' : Cl), 0 ≤ r → r < n → Urn (m + 1) u' → P (.d (.int r)) (st.set i u')) : WVe noE (semU_next [.c i, .d (.int n)] st) P := by
  obtain ⟨a, b, c, rfl, h1, h2, h3, h4, h5⟩ := hU
  unfold semU_next sbU_next
  rw [W_body]
  have hi : i < st.length := (List.getElem?_eq_some_iff.mp hu).1
  have hset : ∀ c, (st.set i c)[i]? = some c := fun c => List.getElem?_set_self hi
  have hm2 : c + 1 < 2 ^ 201 := by omega
  have hsq : 0 ≤ (c + 1) * (c + 1) ∧ (c + 1) * (c + 1) < 2 ^ 402 := by
    have h7 : (0 : Int) ≤ c + 1 := by omega
    refine ⟨Int.mul_nonneg h7 h7, ?_⟩
    have h6 : (c + 1) * (c + 1) ≤ (c + 1) * 2 ^ 201 := Int.mul_le_mul_of_nonneg_left (Int.le_of_lt hm2) h7
    have h8 : (c + 1) * 2 ^ 201 < 2 ^ 201 * 2 ^ 201 := Int.mul_lt_mul_of_pos_right hm2 (by decide)
    have h9 : (2 ^ 201 * 2 ^ 201 : Int) = 2 ^ 402 := by decide +kernel
    omega
  simp [hu, urn, hset]
  split
  · rename_i ha
    have e := Int.emod_lt_of_pos a hn
    have e2 := Int.emod_nonneg a (show n ≠ 0 by omega)
    have e3 : 0 ≤ a / n := Int.ediv_nonneg h1 (Int.le_of_lt hn)
    refine ⟨decide_eq_true hn, ?_, h _ _ e2 e ⟨a / n, b, c, rfl, e3, h2, h3, h4, by omega⟩⟩
    unfold pDiv
    have : n.natAbs < 2 ^ 200 := by omega
    have h6 : n.natAbs ≠ 0 := by omega
    have := (Nat.log2_lt h6).mpr this
    rw [decide_eq_true hn, decide_eq_true (show n.natAbs.log2 < 9000 by omega)]; rfl
  · rename_i ha
    have e0 : a = 0 := by omega
    subst e0
    have q1 : (30011 * (c + 1) * (c + 1) : Int) = 30011 * ((c + 1) * (c + 1)) := Int.mul_assoc ..
    rw [q1]
    generalize (c + 1) * (c + 1) = sq at hsq ⊢
    have k1 := Int.emod_lt_of_pos ((b + 30011 * sq + 19) * 69877) (show (0 : Int) < 2305843009213693921 by decide)
    have k2 := Int.emod_nonneg ((b + 30011 * sq + 19) * 69877) (show (2305843009213693921 : Int) ≠ 0 by decide)
    have k3 : (b + 30011 * sq + 19).natAbs < 2 ^ 420 := by omega
    generalize (b + 30011 * sq + 19) * 69877 % 2305843009213693921 = blend at k1 k2 ⊢
    have k4 := Int.emod_lt_of_pos blend (show (0 : Int) < 1000039 by decide)
    have k5 := Int.emod_nonneg blend (show (1000039 : Int) ≠ 0 by decide)
    have k6 : (blend % 1000039 + 60013 * (c + 1) + 5).natAbs < 2 ^ 220 := by omega
    generalize blend * (blend % 1000039 + 60013 * (c + 1) + 5) % 2305843009213693951 / 103 + blend * (blend % 1000039 + 60013 * (c + 1) + 5) % 2305843009213693951 / 999979 = last
    exact ⟨pMul_of (a := 20) (b := 201) (by decide) (by omega) (by decide), pMul_of (a := 220) (b := 201) (by omega) (by omega) (by decide), pMul_of (a := 420) (b := 20) k3 (by decide) (by decide), rfl, rfl,
      pMul_of (a := 20) (b := 201) (by decide) (by omega) (by decide), pMul_of (a := 62) (b := 220) (by omega) k6 (by decide), rfl, rfl, rfl, decide_eq_true hn,
      h _ _ (Int.emod_nonneg last (by omega)) (Int.emod_lt_of_pos last hn) ⟨0, b, c + 1, rfl, Int.le_refl _, h2, h3, by omega, by omega⟩⟩
@[simp] theorem take_set {α : Type} (s : List α) (i : Nat) (u : α) : (s.set i u).take s.length = s.set i u := List.take_of_length_le (by simp)
@[simp] theorem take_set1 {α : Type} (s : List α) (i : Nat) (u v : α) (hi : i < s.length) : ((s ++ [v]).set i u).take s.length = s.set i u := by rw [List.set_append_left _ _ hi]; exact List.take_left' (by simp)
@[simp] theorem take_app {α : Type} (s t : List α) : (s ++ t).take s.length = s := List.take_left' rfl
/-- two urns' places, one new cell -/
theorem gl1 {α : Type} {s : List α} {i : Nat} {u c : α} (h : i < s.length) : (s.set i u ++ [c])[i]? = some u := by
  rw [List.getElem?_append_left (by simpa using h), List.getElem?_set_self h]
@[simp] theorem gr1 {α : Type} {s : List α} {i : Nat} {u c : α} : (s.set i u ++ [c])[s.length]? = some c := by
  rw [List.getElem?_append_right (by simp)]; simp
theorem sl1 {α : Type} {s : List α} {i : Nat} {u c v : α} (h : i < s.length) : (s.set i u ++ [c]).set i v = s.set i v ++ [c] := by
  rw [List.set_append_left _ _ (by simpa using h), List.set_set]
@[simp] theorem sr1 {α : Type} {s : List α} {i : Nat} {u c d : α} : (s.set i u ++ [c]).set s.length d = s.set i u ++ [d] := by
  rw [List.set_append_right _ _ (by simp)]; simp
@[simp] theorem tk1 {α : Type} {s : List α} {i : Nat} {u c : α} : (s.set i u ++ [c]).take s.length = s.set i u := List.take_left' (by simp)
@[simp] theorem tk2 {α : Type} {s : List α} {i : Nat} {u c : α} : (s.set i u ++ [c]).take (s.length + 1) = s.set i u ++ [c] := List.take_of_length_le (by simp)
theorem rOk_of2 {i j : Int} (h1 : -1000000000000 ≤ i) (h2 : i ≤ 1000000000000) (h3 : -1000000000000 ≤ j) (h4 : j ≤ 1000000000000) : rOk i j = true := by
  unfold rOk
  rw [decide_eq_true (by omega), decide_eq_true (by omega), decide_eq_true (by omega), decide_eq_true (by omega)]; rfl
theorem gl0 {α : Type} {s : List α} {i : Nat} {u c : α} (h : s[i]? = some u) : (s ++ [c])[i]? = some u := by
  rw [List.getElem?_append_left (List.getElem?_eq_some_iff.mp h).1, h]
theorem sl0 {α : Type} {s : List α} {i : Nat} {c v : α} (h : i < s.length) : (s ++ [c]).set i v = s.set i v ++ [c] := List.set_append_left _ _ h
@[simp] theorem gr0 {α : Type} {s : List α} {c : α} : (s ++ [c])[s.length]? = some c := by simp
theorem rngD_get {lo hi : Int} {i : Nat} {d : PyData} (h : (rngD lo hi)[i]? = some d) : d = .int (lo + i) ∧ (i : Int) < hi - lo := by
  unfold rngD at h
  rw [List.getElem?_map] at h
  obtain ⟨k, h1, rfl⟩ := Option.map_eq_some_iff.mp h
  obtain ⟨h2, h3⟩ := List.getElem?_eq_some_iff.mp h1
  rw [List.getElem_range] at h3
  rw [List.length_range] at h2
  subst h3
  exact ⟨rfl, by omega⟩
theorem rngD_len {lo hi : Int} : (rngD lo hi).length = (hi - lo).toNat := by unfold rngD; simp
theorem fLen_nth {xs : List PyData} : fLen (.list xs) = some (.d (.int xs.length)) := rfl
/-- one of several -/
theorem w_of {i : Nat} {xs : List PyData} {u : Cl} {m : Int} (hu : st[i]? = some u) (hU : Urn m u) (hm : m < 2 ^ 200) (hx : xs ≠ []) (hx2 : xs.length ≤ sizeLine) (h : ∀ (x : PyData) (u' : Cl), x ∈ xs → Urn (m + 1) u' → P (.d x) (st.set i u')) :
    WVe noE (semU_of [.c i, .d (.list xs)] st) P := by
  unfold semU_of sbU_of
  rw [W_body]
  have hl : 0 < xs.length := List.length_pos_iff.mpr hx
  have hs : sizeLine = 16777216 := rfl
  simp
  refine w_next hu hU hm (by omega) (by omega) fun r u' h0 h1 hU' => ?_
  simp
  exact WO_atI h0 h1 fun k d _ hd => h d u' (List.mem_of_getElem? hd) hU'
end
end Cp
/-! Cw: texts: their lengths, what is shown of data. -/
namespace Cp
open PySem L2
/-- a text of at most n signs -/
def Txs (n : Nat) (x : Str) : Prop := x.length ≤ n ∧ ∀ c ∈ x.cps.toList, c < 0x110000
theorem Txs.mono {n m : Nat} {x : Str} (h : Txs n x) (k : n ≤ m) : Txs m x := ⟨Nat.le_trans h.1 k, h.2⟩
theorem Txs.add {n m : Nat} {x y : Str} (h : Txs n x) (k : Txs m y) : Txs (n + m) (x ++ y) := by
  refine ⟨by rw [strLen_append]; exact Nat.add_le_add h.1 k.1, fun c hc => ?_⟩
  have e : (x ++ y).cps.toList = x.cps.toList ++ y.cps.toList := by
    show (x.cps ++ y.cps).toList = _
    rw [Array.toList_append]
  rw [e, List.mem_append] at hc
  exact hc.elim (h.2 c) (k.2 c)
theorem Txs.ofString {n : Nat} (s : String) (h : s.length ≤ n) : Txs n (Str.ofString s) := by
  rw [Str.ofString_eq_toList]
  refine ⟨?_, fun c hc => ?_⟩
  · show (s.toList.map Char.toNat).toArray.size ≤ n
    rw [List.size_toArray, List.length_map, String.length_toList]; exact h
  · have hc' : c ∈ s.toList.map Char.toNat := by simpa using hc
    obtain ⟨ch, _, rfl⟩ := List.mem_map.mp hc'
    have h := ch.valid
    have e : ch.toNat = ch.val.toNat := rfl
    simp only [UInt32.isValidChar, Nat.isValidChar] at h
    have : ch.val.toNat < 1114112 := by omega
    rw [e]
    exact this
theorem Txs.int {k : Nat} {i : Int} (hk : 0 < k) (h : i.natAbs < 10 ^ k) : Txs (k + 1) (txI i) := Txs.ofString _ (int_text_length_le10 hk h)
theorem Txs.int2 {k : Nat} {i : Int} (hk : 0 < k) (h : i.natAbs.log2 < k) : Txs (k + 1) (Str.ofString (toString i)) := Txs.ofString _ (int_text_length_le hk h)
theorem log_small {i : Int} {k : Nat} (h : i.natAbs < 2 ^ k) (hk : k < 1920) : i.natAbs.log2 < 1920 := by
  by_cases hn : i.natAbs = 0
  · rw [hn]; decide
  · exact Nat.lt_trans ((Nat.log2_lt hn).mpr h) hk

/-! ### what is shown -/
mutual
def siz : PyData → Nat
  | .none | .bool _ => 5
  | .int i => i.natAbs.log2 + 2
  | .str x => 10 * x.length + 2
  | .list xs | .tuple xs => sizAll xs + 3
  | .dict kvs => sizKv kvs + 3
def sizAll : List PyData → Nat
  | [] => 0
  | x :: xs => siz x + 2 + sizAll xs
def sizKv : List (PyData × PyData) → Nat
  | [] => 0
  | (k, v) :: r => siz k + siz v + 4 + sizKv r
end
mutual
def okS : PyData → Prop
  | .none | .bool _ => True
  | .int i => i.natAbs.log2 < 1920
  | .str x => ∀ c ∈ x.cps.toList, c < 0x110000
  | .list xs | .tuple xs => okSs xs
  | .dict _ => False
def okSs : List PyData → Prop
  | [] => True
  | x :: xs => okS x ∧ okSs xs
end
theorem join_len (ts : List Str) : (Str.join ", " ts).length ≤ (ts.map fun t => t.length + 2).sum := by
  induction ts with
  | nil => exact Nat.zero_le _
  | cons t r ih =>
    cases r with
    | nil => show t.length ≤ _; simp
    | cons u r =>
      show (t ++ ", " ++ Str.join ", " (u :: r)).length ≤ _
      rw [strLen_append, strLen_append, List.map_cons, List.sum_cons]
      have e2 : ((", " : String) : Str).length = 2 := rfl
      omega
theorem text_len (ts : List Str) : (PySem.listText ts).length ≤ (ts.map fun t => t.length + 2).sum + 2 := by
  have h : ∀ (ts : List Str) (k : Nat) (acc : Str), (PySem.textFrom k acc ts).length ≤ acc.length + (ts.map fun t => t.length + 2).sum := by
    intro ts
    induction ts with
    | nil => intro k acc; exact Nat.le_add_right _ _
    | cons t r ih =>
      intro k acc
      show (PySem.textFrom (k + 1) (acc ++ (if k > 0 then ", " else "" : String) ++ t) r).length ≤ _
      refine Nat.le_trans (ih _ _) ?_
      rw [strLen_append, strLen_append, List.map_cons, List.sum_cons]
      have e : ((if k > 0 then ", " else "" : String) : Str).length ≤ 2 := by split <;> decide
      omega
  show (PySem.textFrom 0 "[" ts ++ "]").length ≤ _
  rw [strLen_append]
  have := h ts 0 "["
  have e1 : (("[" : String) : Str).length = 1 := rfl
  have e2 : (("]" : String) : Str).length = 1 := rfl
  omega
mutual
theorem shown_ok : ∀ {d : PyData}, okS d → d.showable = true ∧ d.hasDict = false ∧ d.shown.length ≤ siz d
  | .none, _ => ⟨rfl, rfl, by decide⟩
  | .bool b, _ => ⟨rfl, rfl, by cases b <;> decide⟩
  | .int i, h => ⟨decide_eq_true h, rfl, (Txs.int2 (i := i) (k := i.natAbs.log2 + 1) (Nat.succ_pos _) (Nat.lt_succ_self _)).1⟩
  | .str x, h => ⟨rfl, rfl, PySem.StrLaws.reprText_len x fun c hc => Nat.lt_trans (h c hc) (by decide)⟩
  | .list xs, h => by
    obtain ⟨h1, h2, h3⟩ := shown_oks h
    refine ⟨h1, h2, ?_⟩
    show (PySem.listText (PyData.shownAll xs)).length ≤ sizAll xs + 3
    have := text_len (PyData.shownAll xs)
    omega
  | .tuple xs, h => by
    obtain ⟨h1, h2, h3⟩ := shown_oks h
    refine ⟨h1, h2, ?_⟩
    show (("(" : Str) ++ Str.join ", " (PyData.shownAll xs) ++ (if (PyData.shownAll xs).length == 1 then ",)" else ")" : String)).length ≤ sizAll xs + 3
    rw [strLen_append, strLen_append]
    have := join_len (PyData.shownAll xs)
    have e1 : (("(" : String) : Str).length = 1 := rfl
    have e : ((if (PyData.shownAll xs).length == 1 then ",)" else ")" : String) : Str).length ≤ 2 := by split <;> decide
    omega
  | .dict _, h => False.elim h
theorem shown_oks : ∀ {ds : List PyData}, okSs ds → PyData.showableAll ds = true ∧ PyData.hasDictAll ds = false ∧ ((PyData.shownAll ds).map fun t => t.length + 2).sum ≤ sizAll ds
  | [], _ => ⟨rfl, rfl, Nat.le_refl _⟩
  | d :: ds, h => by
    obtain ⟨h1, h2, h3⟩ := shown_ok h.1
    obtain ⟨k1, k2, k3⟩ := shown_oks h.2
    refine ⟨?_, ?_, ?_⟩
    · show (d.showable && PyData.showableAll ds) = true; rw [h1, k1]; rfl
    · show (d.hasDict || PyData.hasDictAll ds) = false; rw [h2, k2]; rfl
    · show ((d.shown :: PyData.shownAll ds).map _).sum ≤ _
      rw [List.map_cons, List.sum_cons]
      show _ ≤ siz d + 2 + sizAll ds
      omega
end
theorem fRepr_at {d : PyData} (h : okS d) (hs : siz d ≤ sizeLine) (hd : d.depth ≤ 60) : fRepr d = some (.d (.str d.shown)) := by
  obtain ⟨h1, h2, h3⟩ := shown_ok h
  have : shw d = true := by
    unfold shw
    rw [h1, h2, decide_eq_true (Nat.le_trans h3 hs), decide_eq_true hd]; rfl
  unfold fRepr
  rw [if_pos this]
theorem sizAll_le {B : Nat} : ∀ {ds : List PyData}, (∀ d ∈ ds, siz d ≤ B) → sizAll ds ≤ ds.length * (B + 2)
  | [], _ => Nat.zero_le _
  | d :: ds, h => by
    have h1 := h d (List.mem_cons_self ..)
    have h2 := sizAll_le (ds := ds) fun e he => h e (List.mem_cons_of_mem _ he)
    show siz d + 2 + sizAll ds ≤ (ds.length + 1) * (B + 2)
    rw [Nat.add_mul]
    omega
theorem okSs_of : ∀ {ds : List PyData}, (∀ d ∈ ds, okS d) → okSs ds
  | [], _ => trivial
  | d :: ds, h => ⟨h d (List.mem_cons_self ..), okSs_of fun e he => h e (List.mem_cons_of_mem _ he)⟩
theorem depthAll_le {B : Nat} : ∀ {ds : List PyData}, (∀ d ∈ ds, d.depth ≤ B) → PyData.depthAll ds ≤ B
  | [], _ => Nat.zero_le _
  | d :: ds, h => Nat.max_le.mpr ⟨h d (List.mem_cons_self ..), depthAll_le fun e he => h e (List.mem_cons_of_mem _ he)⟩
/-! ### signs -/
theorem chr_lt (ch : Char) : ch.toNat < 0x110000 := by
  have h := ch.valid
  have e : ch.toNat = ch.val.toNat := rfl
  simp only [UInt32.isValidChar, Nat.isValidChar] at h
  rw [e]; omega
abbrev Sgn (x : Str) : Prop := ∀ c ∈ x.cps.toList, c < 0x110000
theorem Sgn.add {x y : Str} (h : Sgn x) (k : Sgn y) : Sgn (x ++ y) := fun c hc => by
  have e : (x ++ y).cps.toList = x.cps.toList ++ y.cps.toList := by
    show (x.cps ++ y.cps).toList = _
    rw [Array.toList_append]
  rw [e, List.mem_append] at hc
  exact hc.elim (h c) (k c)
theorem Sgn.lit (s : String) : Sgn (Str.ofString s) := (Txs.ofString (n := s.length) s (Nat.le_refl _)).2
theorem reprChar_lt {q c : Nat} (hc : c < 0x110000) : ∀ d ∈ Builtin.Str.reprChar q c, d < 0x110000 := by
  have hx : ∀ w d, d ∈ List.replicate (w - ((Nat.toDigits 16 c).map Char.toNat).length) 48 ++ (Nat.toDigits 16 c).map Char.toNat → d < 0x110000 := fun w d hd => by
    rcases List.mem_append.mp hd with h | h
    · rw [(List.mem_replicate.mp h).2]; decide
    · obtain ⟨ch, _, rfl⟩ := List.mem_map.mp h; exact chr_lt ch
  intro d hd
  unfold Builtin.Str.reprChar at hd
  simp only [] at hd
  split at hd
  · rcases List.mem_cons.mp hd with rfl | h
    · decide
    · rw [List.mem_singleton.mp h]; exact hc
  split at hd
  · rcases List.mem_cons.mp hd with rfl | h
    · decide
    · rw [List.mem_singleton.mp h]; decide
  split at hd
  · rcases List.mem_cons.mp hd with rfl | h
    · decide
    · rw [List.mem_singleton.mp h]; decide
  split at hd
  · rcases List.mem_cons.mp hd with rfl | h
    · decide
    · rw [List.mem_singleton.mp h]; decide
  split at hd
  · rw [List.mem_singleton.mp hd]; exact hc
  have two : ∀ w b, d ∈ [92, b] ++ (List.replicate (w - ((Nat.toDigits 16 c).map Char.toNat).length) 48 ++ (Nat.toDigits 16 c).map Char.toNat) → b < 0x110000 → d < 0x110000 := fun w b h hb => by
    rcases List.mem_append.mp h with h | h
    · rcases List.mem_cons.mp h with rfl | h
      · decide
      · rw [List.mem_singleton.mp h]; exact hb
    · exact hx w d h
  split at hd
  · exact two 2 120 hd (by decide)
  split at hd
  · exact two 4 117 hd (by decide)
  · exact two 8 85 hd (by decide)
theorem repr_sgn {x : Str} (h : Sgn x) : Sgn (reprText x) := by
  have hq : reprQuote x < 0x110000 := by
    unfold reprQuote
    split <;> decide
  have key : ∀ (l : List Nat) (acc : Array Nat), (∀ c ∈ l, c < 0x110000) → (∀ c ∈ acc.toList, c < 0x110000) → ∀ c ∈ (l.foldl (fun out c => out ++ (Builtin.Str.reprChar (reprQuote x) c).toArray) acc).toList, c < 0x110000 := by
    intro l
    induction l with
    | nil => intro acc _ h2; exact h2
    | cons a r ih =>
      intro acc h1 h2
      refine ih _ (fun c hc => h1 c (List.mem_cons_of_mem _ hc)) fun c hc => ?_
      rw [Array.toList_append, List.mem_append] at hc
      rcases hc with hc | hc
      · exact h2 c hc
      · exact reprChar_lt (h1 a (List.mem_cons_self ..)) c (by simpa using hc)
  intro c hc
  have e : (reprText x).cps.toList = (x.cps.toList.foldl (fun out c => out ++ (Builtin.Str.reprChar (reprQuote x) c).toArray) #[reprQuote x]).toList ++ [reprQuote x] := by
    unfold reprText
    rw [Array.toList_push, ← Array.foldl_toList]
  rw [e, List.mem_append] at hc
  rcases hc with hc | hc
  · refine key _ _ h (fun d hd => ?_) c hc
    have : d = reprQuote x := by simpa using hd
    rw [this]; exact hq
  · rw [List.mem_singleton.mp hc]; exact hq
theorem join_sgn {sep : Str} (hs : Sgn sep) : ∀ {ts : List Str}, (∀ t ∈ ts, Sgn t) → Sgn (Str.join sep ts)
  | [], _ => fun c hc => by simp [Str.join, Str.empty] at hc
  | [t], h => h t (List.mem_cons_self ..)
  | t :: u :: r, h => Sgn.add (Sgn.add (h t (List.mem_cons_self ..)) hs) (join_sgn hs fun z hz => h z (List.mem_cons_of_mem _ hz))
theorem text_sgn {ts : List Str} (h : ∀ t ∈ ts, Sgn t) : Sgn (PySem.listText ts) := by
  have key : ∀ (ts : List Str) (k : Nat) (acc : Str), Sgn acc → (∀ t ∈ ts, Sgn t) → Sgn (PySem.textFrom k acc ts) := by
    intro ts
    induction ts with
    | nil => intro k acc h _; exact h
    | cons t r ih =>
      intro k acc h1 h2
      refine ih (k + 1) _ (Sgn.add (Sgn.add h1 (Sgn.lit _)) (h2 t (List.mem_cons_self ..))) fun z hz => h2 z (List.mem_cons_of_mem _ hz)
  exact Sgn.add (key ts 0 _ (Sgn.lit _) h) (Sgn.lit _)
mutual
theorem shown_sgn : ∀ {d : PyData}, okS d → Sgn d.shown
  | .none, _ => Sgn.lit _
  | .bool b, _ => by cases b <;> exact Sgn.lit _
  | .int i, h => Sgn.lit _
  | .str x, h => repr_sgn h
  | .list xs, h => text_sgn (shown_sgns h)
  | .tuple xs, h => Sgn.add (Sgn.add (Sgn.lit _) (join_sgn (Sgn.lit _) (shown_sgns h))) (Sgn.lit _)
  | .dict _, h => False.elim h
theorem shown_sgns : ∀ {ds : List PyData}, okSs ds → ∀ t ∈ PyData.shownAll ds, Sgn t
  | [], _ => fun t ht => nomatch ht
  | d :: ds, h => fun t ht => by
    rcases List.mem_cons.mp ht with rfl | ht
    · exact shown_sgn h.1
    · exact shown_sgns h.2 t ht
end
/-! ### alike or not -/
mutual
theorem canLay_ok : ∀ {d : PyData}, okS d → d.canLay0 = true
  | .none, _ => rfl
  | .bool b, _ => rfl
  | .int i, h => rfl
  | .str x, h => by
    show x.cps.all (· < 0x110000) = true
    rw [Array.all_eq_true']
    intro c hc
    exact decide_eq_true (h c (by simpa using hc))
  | .list xs, h => canLay_oks h
  | .tuple xs, h => canLay_oks h
  | .dict _, h => False.elim h
theorem canLay_oks : ∀ {ds : List PyData}, okSs ds → PyData.canLayAll0 ds = true
  | [], _ => rfl
  | d :: ds, h => by
    show (d.canLay0 && PyData.canLayAll0 ds) = true
    rw [canLay_ok h.1, canLay_oks h.2]; rfl
end
theorem shaped_ok {d : PyData} (h : okS d) (hd : d.depth ≤ 64) : SeqAt.shaped d = true := by
  unfold SeqAt.shaped
  rw [canLay_ok h, decide_eq_true hd]; rfl
theorem gNe_at {a b : PyData} (ha : okS a) (hb : okS b) (hda : a.depth ≤ 64) (hdb : b.depth ≤ 64) : gNe a b = some (!PyData.eqv a b) := by
  unfold gNe
  rw [shaped_ok ha hda, shaped_ok hb hdb]; rfl
theorem gEq_at {a b : PyData} (ha : okS a) (hb : okS b) (hda : a.depth ≤ 64) (hdb : b.depth ≤ 64) : gEq a b = some (PyData.eqv a b) := by
  unfold gEq
  rw [shaped_ok ha hda, shaped_ok hb hdb]; rfl
mutual
theorem eqv_refl : ∀ {d : PyData}, d.canLay0 = true → PyData.eqv d d = true
  | .none, _ => rfl
  | .bool b, _ => by cases b <;> rfl
  | .int i, _ => by show (i == i) = true; simp
  | .str x, _ => by show (x == x) = true; simp
  | .list xs, h => eqv_refls h
  | .tuple xs, h => eqv_refls h
  | .dict _, h => by cases h
theorem eqv_refls : ∀ {ds : List PyData}, PyData.canLayAll0 ds = true → PyData.eqvAll ds ds = true
  | [], _ => rfl
  | d :: ds, h => by
    have h' : (d.canLay0 && PyData.canLayAll0 ds) = true := h
    rw [Bool.and_eq_true] at h'
    show (PyData.eqv d d && PyData.eqvAll ds ds) = true
    rw [eqv_refl h'.1, eqv_refls h'.2]; rfl
end
theorem gNe_same {d : PyData} (h : SeqAt.shaped d = true) : gNe d d = some false := by
  unfold gNe
  rw [h]
  show some (!PyData.eqv d d) = _
  rw [eqv_refl (SeqAt.canLay_of_shaped h)]; rfl
theorem gEq_same {d : PyData} (h : SeqAt.shaped d = true) : gEq d d = some true := by
  unfold gEq
  rw [h]
  show some (PyData.eqv d d) = _
  rw [eqv_refl (SeqAt.canLay_of_shaped h)]
theorem eqv_str (x y : Str) : PyData.eqv (.str x) (.str y) = decide (x = y) := by
  show (x == y) = _
  by_cases h : x = y <;> simp [h]
theorem gNe_str {x y : Str} (hx : Sgn x) (hy : Sgn y) : gNe (.str x) (.str y) = some (!decide (x = y)) := by
  rw [gNe_at (a := .str x) (b := .str y) hx hy (Nat.zero_le _) (Nat.zero_le _), eqv_str]
theorem gEq_str {x y : Str} (hx : Sgn x) (hy : Sgn y) : gEq (.str x) (.str y) = some (decide (x = y)) := by
  rw [gEq_at (a := .str x) (b := .str y) hx hy (Nat.zero_le _) (Nat.zero_le _), eqv_str]
@[simp] theorem gEq_int (x y : Int) : gEq (.int x) (.int y) = some (decide (x = y)) := by
  unfold gEq
  rw [if_pos (by rfl)]
  have : PyData.eqv (.int x) (.int y) = decide (x = y) := by
    show (x == y) = _
    by_cases h : x = y <;> simp [h]
  rw [this]
theorem join_snoc (sep : Str) (ws : List Str) (w : Str) (h : ws ≠ []) : Txt.join sep (ws ++ [w]) = Txt.join sep ws ++ sep ++ w := by
  cases ws with
  | nil => exact absurd rfl h
  | cons x r =>
    show (⟨((x :: r ++ [w]).drop 1).foldl (fun acc p => acc ++ sep.cps ++ p.cps) x.cps⟩ : Str) = ⟨(r.foldl (fun acc p => acc ++ sep.cps ++ p.cps) x.cps) ++ sep.cps ++ w.cps⟩
    show (⟨(r ++ [w]).foldl (fun acc p => acc ++ sep.cps ++ p.cps) x.cps⟩ : Str) = _
    rw [List.foldl_append]; rfl
theorem join_one (sep : Str) (w : Str) : Txt.join sep [w] = w := rfl
end Cp
/-! Ct: isinstance, zip, chains of comparisons. -/
namespace Cp
open PySem L2
section
variable {X : Cx} {C : Cn} {Q : VK} {μ : List Addr} {F H : Hp} {st : Sto} {e a b c : Expr} {m ma mb mc : Ev} {pos p p2 tpos : Pos} {mas : En → Sto → Res (List Vl)} {elts : List Expr} {kk : Nat}
/-! ### chains -/
def mChn (g g' : PyData → PyData → Option Bool) (ma mb mc : Ev) : En → Sto → Res Bool := fun ρ st => (mV ma ρ st).bind fun x s1 => (mV mb ρ s1).bind fun y s2 => match cmp2 g s2 x y with
  | some true => (mV mc ρ s2).bind fun z s3 => okB (cmp2 g' s3 y z) s3
  | some false => .ok false s2
  | none => .no
theorem cmp2_ok {r : R2} {g : PyData → PyData → Option Bool} (ok : CmpOk C r g) {x y : Vl} {v u : V} {k : Bool} {R : VK} (s : SR C.K μ F H st) (kx : Vok C.K F μ x v) (ky : Vok C.K F μ y u) (e : cmp2 g st x y = some k) (q : R (.bl k) H) : r v u H R := by
  unfold cmp2 at e
  cases q1 : view st x with
  | none => simp only [q1] at e; cases e
  | some da =>
    cases q2 : view st y with
    | none => simp only [q1, q2] at e; cases e
    | some db =>
      simp only [q1, q2] at e
      exact ok da db k v u μ F H st R s (view_ok s kx q1) (view_ok s ky q2) e q
theorem chn_core {β : Type} {G : β → Sto → List Addr → Hp → Hp → Prop} (gl : Lat G) {r r' : R2} {g g' : PyData → PyData → Option Bool} (ok : CmpOk C r g) (ok' : CmpOk C r' g') {σ : St} {ρ : En} {R : VK} (h1 : Eok C.K F μ ρ σ) {kk : Bool → Sto → Res β}
    (h3 : Post (C.at σ) G μ F H ((mChn g g' ma mb mc ρ st).bind kk)) (fin : ∀ k s μ1 F1 H1, Ext μ F H μ1 F1 H1 → SR C.K μ1 F1 H1 s → Post (C.at σ) G μ1 F1 H1 (kk k s) → R (.bl k) H1) :
    PostV (C.at σ) (fun x H1 => tV C (mV mb) σ H1 fun y H2 => r x y H2 fun z H3 => ∃ k, z = .bl k ∧ (if k = true then tV C (mV mc) σ H3 fun w' H4 => r' y w' H4 R else R (.bl false) H3)) μ F H (mV ma ρ st) := by
  have e1 : (mChn g g' ma mb mc ρ st).bind kk = (mV ma ρ st).bind fun x s1 => (mV mb ρ s1).bind fun y s2 => (match cmp2 g s2 x y with
    | some true => (mV mc ρ s2).bind fun z s3 => (okB (cmp2 g' s3 y z) s3).bind kk
    | some false => kk false s2
    | none => .no) := by
    unfold mChn
    cases mV ma ρ st with
    | ok x s1 =>
      simp only [Res.bind]
      cases mV mb ρ s1 with
      | ok y s2 =>
        simp only []
        cases cmp2 g s2 x y with
        | none => rfl
        | some k =>
          cases k with
          | false => rfl
          | true => simp only []; cases mV mc ρ s2 <;> rfl
      | er _ _ => rfl
      | no => rfl
    | er _ _ => rfl
    | no => rfl
  rw [e1] at h3
  refine Post.bindV gl h3 fun x s v μ1 F1 H1 x1 r1 k1 h4 => ⟨ρ, s, μ1, F1, h1.ext x1, r1, Post.bindV gl h4 fun y s2 u μ2 F2 H2 x2 r2 k2 h5 => ?_⟩
  cases q : cmp2 g s2 x y with
  | none => simp only [q] at h5; exact False.elim h5
  | some k =>
    refine cmp2_ok ok r2 (k1.ext x2) k2 q ⟨k, rfl, ?_⟩
    cases k with
    | false =>
      simp only [q] at h5
      simp only [Bool.false_eq_true, if_false]
      exact fin false s2 μ2 F2 H2 (x1.trans x2) r2 h5
    | true =>
      simp only [q] at h5
      simp only [if_true]
      refine ⟨ρ, s2, μ2, F2, (h1.ext x1).ext x2, r2, Post.bindV gl h5 fun z s3 w μ3 F3 H3 x3 r3 k3 h6 => ?_⟩
      cases q3 : cmp2 g' s3 y z with
      | none => simp only [q3, okB] at h6; exact False.elim h6
      | some k' =>
        simp only [q3, okB] at h6
        exact cmp2_ok ok' r3 (k2.ext x3) k3 q3 (fin k' s3 μ3 F3 H3 ((x1.trans x2).trans x3) r3 h6)
theorem s_chn {op op' : CmpOp} {r r' : R2} {g g' : PyData → PyData → Option Bool} (ho : OpR X (compareOp op) r) (ho' : OpR X (compareOp op') r') (ok : CmpOk C r g) (ok' : CmpOk C r' g') (ha : PE X a (tM C ma)) (hb : PE X b (tM C mb)) (hc : PE X c (tM C mc))
    (hm : lastMarks [op, op'] [b, c] = false := by with_unfolding_all rfl) : PE X (.Compare a [op, op'] [b, c] pos) (tM C (bV (mChn g g' ma mb mc))) :=
  (pe_chain ho ho' (pv_frz ha) (pv_frz hb) (pv_frz hc) hm).imp fun σ H Q ⟨ρ, st, μ, F, h1, h2, h3⟩ => ⟨ρ, st, μ, F, h1, h2, chn_core gE_lat ok ok' h1 h3 fun k s μ1 F1 H1 x1 r1 h => fin_d r1 h (.bl k)⟩
theorem s_chnT {op op' : CmpOp} {r r' : R2} {g g' : PyData → PyData → Option Bool} (ho : OpR X (compareOp op) r) (ho' : OpR X (compareOp op') r') (ok : CmpOk C r g) (ok' : CmpOk C r' g') (ha : PE X a (tM C ma)) (hb : PE X b (tM C mb)) (hc : PE X c (tM C mc))
    (hm : lastMarks [op, op'] [b, c] = false := by with_unfolding_all rfl) : PT X (.Compare a [op, op'] [b, c] pos) (tT C (mChn g g' ma mb mc)) := by
  have h := pt_chain (pos := pos) ho ho' (pv_frz ha) (pv_frz hb) (pv_frz hc) hm
  refine ⟨fun pins s σ H Q I ⟨ρ, st, μ, F, h1, h2, h3⟩ => h.run pins s σ H Q I ⟨ρ, st, μ, F, h1, h2, ?_⟩⟩
  have h3' : PostB (C.at σ) Q μ F H ((mChn g g' ma mb mc ρ st).bind fun k s => .ok k s) := by
    revert h3
    cases mChn g g' ma mb mc ρ st <;> exact id
  exact chn_core gB_lat ok ok' h1 h3' fun k s μ1 F1 H1 x1 r1 h => ⟨k, rfl, h μ1 F1 H1 Ext.refl r1⟩
/-! ### isinstance -/
def tyD : PyData → String
  | .none => "NoneType"
  | .bool _ => "bool"
  | .int _ => "int"
  | .str _ => "str"
  | .list _ => "list"
  | .tuple _ => "tuple"
  | .dict _ => "dict"
/-- a dict whose keys are not flat (or an instance) -/
def isQ : PyData → Bool
  | .dict kvs => !flK kvs
  | _ => false
@[simp] theorem isQ_none : isQ .none = false := rfl
@[simp] theorem isQ_bool (b : Bool) : isQ (.bool b) = false := rfl
@[simp] theorem isQ_int (b : Int) : isQ (.int b) = false := rfl
@[simp] theorem isQ_str (b : Str) : isQ (.str b) = false := rfl
@[simp] theorem isQ_list (b : List PyData) : isQ (.list b) = false := rfl
@[simp] theorem isQ_tuple (b : List PyData) : isQ (.tuple b) = false := rfl
@[simp] theorem isQ_dict0 : isQ (.dict []) = false := rfl
def kitQ (d : PyData) (T : String) : Option Bool := if isQ d then none else kitB (tyD d) T
theorem kitQ_of {d : PyData} {T : String} {k : Bool} (h : kitQ d T = some k) : isQ d = false ∧ kitB (tyD d) T = some k := by
  unfold kitQ at h
  cases q : isQ d with
  | true => rw [q] at h; cases h
  | false => rw [q] at h; exact ⟨rfl, h⟩
def mIsi (T : String) (ma : Ev) : Ev := fun ρ st => (mV ma ρ st).bind fun x s => match (view s x).bind fun d => kitQ d T with
  | some k => .ok (.d (.bool k)) s
  | none => .no
theorem Vw.ty {K : Kw} {v : V} {d : PyData} (s : Same F H) (h : Vw K F H v d) (hq : isQ d = false) (K' : PySem.W.Frag) : TyX K' H v (.type (tyD d)) := by
  cases d with
  | none => rw [h.non]; exact .base .non
  | bool b => rw [h.bl]; exact .base (.bl b)
  | int b => rw [h.int]; exact .base (.int b)
  | str b => rw [h.str]; exact .base (.str b)
  | list b => obtain ⟨q, xs, rfl, h1, _⟩ := h; exact .base (.lst h1)
  | tuple b => obtain ⟨q, xs, rfl, h1, _⟩ := h.tup; exact .base (.tup (s _ _ h1))
  | dict b => obtain ⟨q, xs, rfl, h1, _⟩ := h.flat_dict (by simpa [isQ] using hq); exact .base (.dK h1)
theorem boot_isi : bootBuiltins "isinstance" = some (.builtin "isinstance") := by decide +kernel
theorem s_isi {T : String} {y : Str} (hg : Gl X "isinstance") (hm : X.mg "isinstance" = none) (ha : PE X a (tM C ma)) (hg2 : Gl X y) (hm2 : X.mg y = none) (hv : bootBuiltins y = some (.type T)) (hn : y ≠ "__name__" := by decide) (hd : (y == ("__debug__" : Str)) = false := by decide)
    (he : starEach [a, .Name y p2] X.env = (false, eval a X.env) :: starEach [.Name y p2] X.env := by rfl) (hpl : (backTo pos (starEach [.Name y p2] X.env)).any (·.1) = false := by rfl) (he2 : starEach [.Name y p2] X.env = (false, eval (.Name y p2) X.env) :: starEach [] X.env := by rfl) :
    PE X (.Call (.Name "isinstance" p) [a, .Name y p2] [] pos) (tM C (mIsi T ma)) :=
  (pe_callB call_isi hg hm boot_isi (pa_cons (pv_frz ha) (pa_cons (pe_bltn (v := .ty T) hg2 hm2 hv rfl hn hd) pa_nil he2) he) (by decide) (by decide) he hpl).imp fun σ H Q ⟨ρ, st, μ, F, h1, h2, h3⟩ => ⟨ρ, st, μ, F, h1, h2, Post.bindV gE_lat h3 fun x s v μ1 F1 H1 x1 r1 k1 h4 => by
    cases q1 : view s x with
    | none => simp only [q1, Option.bind] at h4; exact False.elim h4
    | some d =>
      cases q2 : kitQ d T with
      | none => simp only [q1, q2, Option.bind] at h4; exact False.elim h4
      | some k =>
        simp only [q1, q2, Option.bind] at h4
        exact ⟨v, .ty T, .type (tyD d), .type T, k, rfl, .ty T, (view_ok r1 k1 q1).ty r1.sub (kitQ_of q2).1 _, kit_ty (kitQ_of q2).2, fin_d r1 h4 (.bl k)⟩⟩
@[simp] theorem W_mIsi {ρ : En} {T : String} {E : Er → Sto → Prop} {P : Rv → Sto → Prop} : WVe E (mIsi T ma ρ st) P = WVe E (ma ρ st) fun r s => WO (view s (frz r)) fun d => isQ d = false ∧ WO (kitB (tyD d) T) fun k => P (.d (.bool k)) s := by
  unfold mIsi; rw [WV_bind, W_mV]
  congr 1; funext r s
  cases view s (frz r) with
  | none => rfl
  | some d => simp only [Option.bind, WO_some, kitQ]; cases isQ d <;> cases kitB (tyD d) T <;> simp <;> rfl
def isT (T : String) (d : PyData) : Bool := tyD d == T || (T == "int" && tyD d == "bool")
theorem kitB_int : ∀ d : PyData, kitB (tyD d) "int" = some (isT "int" d)
  | .none => (show kitB "NoneType" "int" = some false by decide +kernel)
  | .bool _ => (show kitB "bool" "int" = some true by decide +kernel)
  | .int _ => (show kitB "int" "int" = some true by decide +kernel)
  | .str _ => (show kitB "str" "int" = some false by decide +kernel)
  | .list _ => (show kitB "list" "int" = some false by decide +kernel)
  | .tuple _ => (show kitB "tuple" "int" = some false by decide +kernel)
  | .dict _ => (show kitB "dict" "int" = some false by decide +kernel)
theorem kitB_bool : ∀ d : PyData, kitB (tyD d) "bool" = some (isT "bool" d)
  | .none => (show kitB "NoneType" "bool" = some false by decide +kernel)
  | .bool _ => (show kitB "bool" "bool" = some true by decide +kernel)
  | .int _ => (show kitB "int" "bool" = some false by decide +kernel)
  | .str _ => (show kitB "str" "bool" = some false by decide +kernel)
  | .list _ => (show kitB "list" "bool" = some false by decide +kernel)
  | .tuple _ => (show kitB "tuple" "bool" = some false by decide +kernel)
  | .dict _ => (show kitB "dict" "bool" = some false by decide +kernel)
theorem kitB_str : ∀ d : PyData, kitB (tyD d) "str" = some (isT "str" d)
  | .none => (show kitB "NoneType" "str" = some false by decide +kernel)
  | .bool _ => (show kitB "bool" "str" = some false by decide +kernel)
  | .int _ => (show kitB "int" "str" = some false by decide +kernel)
  | .str _ => (show kitB "str" "str" = some true by decide +kernel)
  | .list _ => (show kitB "list" "str" = some false by decide +kernel)
  | .tuple _ => (show kitB "tuple" "str" = some false by decide +kernel)
  | .dict _ => (show kitB "dict" "str" = some false by decide +kernel)
theorem kitB_tuple : ∀ d : PyData, kitB (tyD d) "tuple" = some (isT "tuple" d)
  | .none => (show kitB "NoneType" "tuple" = some false by decide +kernel)
  | .bool _ => (show kitB "bool" "tuple" = some false by decide +kernel)
  | .int _ => (show kitB "int" "tuple" = some false by decide +kernel)
  | .str _ => (show kitB "str" "tuple" = some false by decide +kernel)
  | .list _ => (show kitB "list" "tuple" = some false by decide +kernel)
  | .tuple _ => (show kitB "tuple" "tuple" = some true by decide +kernel)
  | .dict _ => (show kitB "dict" "tuple" = some false by decide +kernel)
theorem kitB_list : ∀ d : PyData, kitB (tyD d) "list" = some (isT "list" d)
  | .none => (show kitB "NoneType" "list" = some false by decide +kernel)
  | .bool _ => (show kitB "bool" "list" = some false by decide +kernel)
  | .int _ => (show kitB "int" "list" = some false by decide +kernel)
  | .str _ => (show kitB "str" "list" = some false by decide +kernel)
  | .list _ => (show kitB "list" "list" = some true by decide +kernel)
  | .tuple _ => (show kitB "tuple" "list" = some false by decide +kernel)
  | .dict _ => (show kitB "dict" "list" = some false by decide +kernel)
theorem kitB_dict : ∀ d : PyData, kitB (tyD d) "dict" = some (isT "dict" d)
  | .none => (show kitB "NoneType" "dict" = some false by decide +kernel)
  | .bool _ => (show kitB "bool" "dict" = some false by decide +kernel)
  | .int _ => (show kitB "int" "dict" = some false by decide +kernel)
  | .str _ => (show kitB "str" "dict" = some false by decide +kernel)
  | .list _ => (show kitB "list" "dict" = some false by decide +kernel)
  | .tuple _ => (show kitB "tuple" "dict" = some false by decide +kernel)
  | .dict _ => (show kitB "dict" "dict" = some true by decide +kernel)
@[simp] theorem W_mChn {ρ : En} {g g' : PyData → PyData → Option Bool} {E : Er → Sto → Prop} {P : Bool → Sto → Prop} : WVe E (mChn g g' ma mb mc ρ st) P = WVe E (ma ρ st) fun r1 s1 => WVe E (mb ρ s1) fun r2 s2 => WO (cmp2 g s2 (frz r1) (frz r2)) fun k => if k = true then WVe E (mc ρ s2) fun r3 s3 => WO (cmp2 g' s3 (frz r2) (frz r3)) fun k => P k s3 else P false s2 := by
  unfold mChn; rw [WV_bind, W_mV]
  congr 1; funext r1 s1; rw [WV_bind, W_mV]
  congr 1; funext r2 s2
  cases cmp2 g s2 (frz r1) (frz r2) with
  | none => rfl
  | some k =>
    cases k with
    | false => rfl
    | true =>
      simp only [WO_some, if_true]
      rw [WV_bind, W_mV]
      congr 1; funext r3 s3; rw [WV_okB]
/-! ### zip -/
def zipF : List PyData → List PyData → List PyData
  | a :: as, b :: bs => .tuple [a, b] :: zipF as bs
  | _, _ => []
theorem zipF_get : ∀ (as bs : List PyData) (i : Nat) (d : PyData), (zipF as bs)[i]? = some d → ∃ a b, as[i]? = some a ∧ bs[i]? = some b ∧ d = .tuple [a, b]
  | [], _, i, d, h => by simp [zipF] at h
  | _ :: _, [], i, d, h => by simp [zipF] at h
  | a :: as, b :: bs, 0, d, h => ⟨a, b, rfl, rfl, by simpa [zipF] using h.symm⟩
  | a :: as, b :: bs, i + 1, d, h => by
    obtain ⟨x, y, h1, h2, h3⟩ := zipF_get as bs i d (by simpa [zipF] using h)
    exact ⟨x, y, by simpa using h1, by simpa using h2, h3⟩
theorem zipF_len : ∀ (as bs : List PyData), as.length ≤ (zipF as bs).length ∨ bs.length ≤ (zipF as bs).length
  | [], _ => .inl (Nat.zero_le _)
  | _ :: _, [] => .inr (Nat.zero_le _)
  | a :: as, b :: bs => (zipF_len as bs).imp (fun h => Nat.succ_le_succ h) fun h => Nat.succ_le_succ h
def srcZp (xs : List Vl) : Option Src := match xs with
  | [.d (.list xs), .d (.list ys)] => some (zipF xs ys, none)
  | [.d (.tuple xs), .d (.tuple ys)] => some (zipF xs ys, none)
  | _ => none
def iZp (ma : En → Sto → Res (List Vl)) : En → Sto → Res Src := fun ρ st => (ma ρ st).bind fun xs s => okO (srcZp xs) s
@[simp] theorem srcZp_l (xs ys : List PyData) : srcZp [.d (.list xs), .d (.list ys)] = some (zipF xs ys, none) := rfl
@[simp] theorem srcZp_t (xs ys : List PyData) : srcZp [.d (.tuple xs), .d (.tuple ys)] = some (zipF xs ys, none) := rfl
@[simp] theorem W_iZp {ρ : En} {P : Src → Sto → Prop} : WVe noE (iZp mas ρ st) P = WVe noE (mas ρ st) fun xs s => WO (srcZp xs) fun dg => P dg s := by
  unfold iZp; rw [WV_bind]
  congr 1; funext xs s; rw [WV_okO]
theorem i_zip (hg : Gl X "zip") (hm : X.mg "zip" = none) (ha : PA X [a, b] (tAs C mas)) (hs : starEach [a, b] X.env = (false, eval a X.env) :: starEach [b] X.env := by rfl) (hpl : (backTo pos (starEach [b] X.env)).any (·.1) = false := by rfl) :
    PI X (.Tuple elts kk tpos) (.Call (.Name "zip" p) [a, b] [] pos) (tI C (iZp mas)) :=
  (RZ.pi_zipA hg hm ha hs hpl).imp fun σ H R ⟨ρ, st, μ, F, h1, h2, h3⟩ => ⟨ρ, st, μ, F, h1, h2, Post.bindA gW_lat h3 fun x s v μ1 F1 H1 x1 r1 k1 h4 => by
    unfold srcZp at h4
    split at h4
    · rename_i xs ys
      simp only [okO] at h4
      obtain ⟨v1, v2, rfl, g1, g2⟩ := k1.two
      cases (show Dq C.K F1 v1 (.list xs) from g1) with
      | lst a1 a2 =>
        cases (show Dq C.K F1 v2 (.list ys) from g2) with
        | lst b1 b2 =>
          refine ⟨_, _, _, _, rfl, .inl ⟨SqL.of (r1.sub _ _ a1), SqL.of (r1.sub _ _ b1), h4 _ μ1 F1 H1 Ext.refl r1 ⟨fun i μ2 F2 H2 st2 d x2 r2 _ e => ?_, fun μ2 F2 H2 st2 x2 r2 _ => ?_⟩⟩⟩
          · obtain ⟨p1, p2, e1, e2, rfl⟩ := zipF_get _ _ _ _ e
            have c1 := SqL.of (K := X.K) (r2.sub _ _ (x2.same _ _ a1))
            have c2 := SqL.of (K := X.K) (r2.sub _ _ (x2.same _ _ b1))
            obtain ⟨y1, f1, f2⟩ := (a2.same x2.same).get e1
            obtain ⟨y2, f3, f4⟩ := (b2.same x2.same).get e2
            refine ⟨⟨_, _, _, _, c1, c2, f1, f3⟩, fun x H3 ⟨T, u1, u2, e3, e4, e5, e6, e7⟩ => ?_⟩
            subst e3 e5
            have := e6 _ c1
            rw [f1] at this; cases this
            have := e7 _ c2
            rw [f3] at this; cases this
            exact r2.tupled e4 f2 f4
          · refine ⟨_, _, SqL.of (K := X.K) (r2.sub _ _ (x2.same _ _ a1)), SqL.of (K := X.K) (r2.sub _ _ (x2.same _ _ b1)), ?_⟩
            rw [a2.length, b2.length]
            exact zipF_len xs ys
    · rename_i xs ys
      simp only [okO] at h4
      obtain ⟨v1, v2, rfl, g1, g2⟩ := k1.two
      cases (show Dq C.K F1 v1 (.tuple xs) from g1) with
      | tup a1 a2 =>
        cases (show Dq C.K F1 v2 (.tuple ys) from g2) with
        | tup b1 b2 =>
          refine ⟨_, _, _, _, rfl, .inr ⟨SqT.of (r1.sub _ _ a1), SqT.of (r1.sub _ _ b1), h4 _ μ1 F1 H1 Ext.refl r1 ⟨fun i μ2 F2 H2 st2 d x2 r2 _ e => ?_, fun μ2 F2 H2 st2 x2 r2 _ => ?_⟩⟩⟩
          · obtain ⟨p1, p2, e1, e2, rfl⟩ := zipF_get _ _ _ _ e
            have c1 := SqT.of (K := X.K) (r2.sub _ _ (x2.same _ _ a1))
            have c2 := SqT.of (K := X.K) (r2.sub _ _ (x2.same _ _ b1))
            obtain ⟨y1, f1, f2⟩ := (a2.same x2.same).get e1
            obtain ⟨y2, f3, f4⟩ := (b2.same x2.same).get e2
            refine ⟨⟨_, _, _, _, c1, c2, f1, f3⟩, fun x H3 ⟨T, u1, u2, e3, e4, e5, e6, e7⟩ => ?_⟩
            subst e3 e5
            have := e6 _ c1
            rw [f1] at this; cases this
            have := e7 _ c2
            rw [f3] at this; cases this
            exact r2.tupled e4 f2 f4
          · refine ⟨_, _, SqT.of (K := X.K) (r2.sub _ _ (x2.same _ _ a1)), SqT.of (K := X.K) (r2.sub _ _ (x2.same _ _ b1)), ?_⟩
            rw [a2.length, b2.length]
            exact zipF_len xs ys
    · simp only [okO] at h4; exact False.elim h4⟩
end
end Cp
/-! Cd: dicts that are written out. -/
namespace Cp
open PySem L2
section
variable {X : Cx} {C : Cn} {Q : VK} {μ : List Addr} {F H : Hp} {st : Sto} {pos : Pos} {keys : List (Option Expr)} {values : List Expr}
def mPairs : List (Ev × Ev) → En → Sto → Res (List (PyData × PyData))
  | [], _, st => .ok [] st
  | (mk, mv) :: r, ρ, st => (mV mk ρ st).bind fun x s1 => (mV mv ρ s1).bind fun y s2 => match x, y with
    | .d a, .d b => (mPairs r ρ s2).bind fun kvs s3 => .ok ((a, b) :: kvs) s3
    | _, _ => .no
abbrev trP (C : Cn) (prs : List (Ev × Ev)) : List (TE × TE) := prs.map fun p => (tV C (mV p.1), tV C (mV p.2))
inductive DqPs (K : Kw) (F : Hp) : List (V × V) → List (PyData × PyData) → Prop
  | nil : DqPs K F [] []
  | cons {x y : V} {a b : PyData} {ps : List (V × V)} {kvs : List (PyData × PyData)} : Dq K F x a → Dq K F y b → DqPs K F ps kvs → DqPs K F ((x, y) :: ps) ((a, b) :: kvs)
abbrev gP (C : Cn) (R : List (V × V) → Hp → Prop) : List (PyData × PyData) → Sto → List Addr → Hp → Hp → Prop := fun kvs st μ F H => ∀ ps μ' F' H', Ext μ F H μ' F' H' → SR C.K μ' F' H' st → DqPs C.K F' ps kvs → R ps H'
theorem gP_lat {R : List (V × V) → Hp → Prop} : Lat (gP C R) := ⟨fun x h ps μ' F' H' y s d => h ps μ' F' H' (x.trans y) s d⟩
theorem pairs_ok : ∀ (prs : List (Ev × Ev)) {R : List (V × V) → Hp → Prop} {σ : St} {ρ : En} {μ : List Addr} {F H : Hp} {st : Sto}, Eok C.K F μ ρ σ → SR C.K μ F H st → Post (C.at σ) (gP C R) μ F H (mPairs prs ρ st) → tPairs (trP C prs) σ H R
  | [], R, σ, ρ, μ, F, H, st, _, r, h => h [] μ F H Ext.refl r .nil
  | (mk, mv) :: rest, R, σ, ρ, μ, F, H, st, e, r, h => ⟨ρ, st, μ, F, e, r, Post.bindV gP_lat h fun x s1 v μ1 F1 H1 x1 r1 k1 h4 => ⟨ρ, s1, μ1, F1, e.ext x1, r1, Post.bindV gP_lat h4 fun y s2 u μ2 F2 H2 x2 r2 k2 h5 => by
      cases x with
      | c _ => exact False.elim h5
      | s _ => exact False.elim h5
      | o _ => exact False.elim h5
      | d a =>
        cases y with
        | c _ => exact False.elim h5
        | s _ => exact False.elim h5
        | o _ => exact False.elim h5
        | d b =>
          refine pairs_ok rest ((e.ext x1).ext x2) r2 ?_
          have h6 : Post (C.at σ) (gP C R) μ2 F2 H2 ((mPairs rest ρ s2).bind fun kvs s3 => .ok ((a, b) :: kvs) s3) := h5
          cases q : mPairs rest ρ s2 with
          | ok kvs s3 =>
            rw [q] at h6
            intro ps μ3 F3 H3 x3 r3 d3
            exact h6 _ μ3 F3 H3 x3 r3 (.cons (Dq.same (x2.same.trans x3.same) k1) (Dq.same x3.same k2) d3)
          | er e s3 => rw [q] at h6; exact h6
          | no => rw [q] at h6; exact h6⟩⟩
/-- keys: ints and texts, each once -/
def keyD : PyData → Option Key
  | .int i => some (.inl i)
  | .str x => some (.inr x)
  | _ => none
def keysD : List (PyData × PyData) → Option (List Key)
  | [] => some []
  | (k, _) :: r => match keyD k, keysD r with
    | some k, some ks => if ks.any (fun j => decide (j = k)) = true then none else some (k :: ks)
    | _, _ => none
def mDct (prs : List (Ev × Ev)) : Ev := fun ρ st => (mPairs prs ρ st).bind fun kvs s => if (keysD kvs).isSome = true ∧ kvs.length ≤ 15 then .ok (.n (.m kvs)) s else .no
theorem keyD_ok {K : Kw} {v : V} {d : PyData} {k : Key} (h : Dq K F v d) (e : keyD d = some k) : v = kV k ∧ d = kD k := by
  cases d with
  | int i => cases e; cases h; exact ⟨rfl, rfl⟩
  | str i => cases e; cases h; exact ⟨rfl, rfl⟩
  | _ => cases e
theorem keysD_ok {K : Kw} : ∀ {ps : List (V × V)} {kvs : List (PyData × PyData)} {ks : List Key}, DqPs K F ps kvs → keysD kvs = some ks → ∃ ws : List (Key × V), ps = ws.map (fun kv => (kV kv.1, kv.2)) ∧ DqKv K F ws kvs ∧ ws.map (·.1) = ks ∧ ks.Nodup
  | _, _, _, .nil, e => by cases e; exact ⟨[], rfl, .nil, rfl, List.nodup_nil⟩
  | _, (k, d) :: r, ks, .cons h1 h2 t, e => by
    unfold keysD at e
    cases q1 : keyD k with
    | none => simp only [q1] at e; cases e
    | some k' =>
      cases q2 : keysD r with
      | none => simp only [q1, q2] at e; cases e
      | some ks' =>
        simp only [q1, q2] at e
        split at e
        · cases e
        · rename_i hn
          cases e
          obtain ⟨ws, rfl, g2, g3, g4⟩ := keysD_ok t q2
          obtain ⟨rfl, rfl⟩ := keyD_ok h1 q1
          exact ⟨(k', _) :: ws, rfl, .cons h2 g2, by rw [List.map_cons, g3], List.nodup_cons.mpr ⟨fun hm => hn (List.any_eq_true.mpr ⟨_, hm, decide_eq_true rfl⟩), g4⟩⟩
theorem mergeK_nodup : ∀ (ws acc : List (Key × V)), (ws.map (·.1)).Nodup → (∀ k ∈ ws.map (·.1), k ∉ acc.map (·.1)) → mergeK acc ws = acc ++ ws
  | [], acc, _, _ => by simp [mergeK]
  | (k, v) :: ws, acc, h, hd => by
    rw [List.map_cons, List.nodup_cons] at h
    have hk : k ∉ acc.map (·.1) := hd k (by simp)
    have hp : putK acc k v = acc ++ [(k, v)] := by
      unfold putK
      rw [if_neg]
      rw [List.any_eq_true]
      rintro ⟨p, hp, e⟩
      exact hk (List.mem_map.mpr ⟨p, hp, of_decide_eq_true e⟩)
    show mergeK (putK acc k v) ws = _
    rw [hp, mergeK_nodup ws _ h.2 fun j hj => ?_]
    · simp
    · rw [List.map_append, List.mem_append, not_or]
      refine ⟨hd j (by rw [List.map_cons]; exact List.mem_cons_of_mem _ hj), fun z => ?_⟩
      rw [List.map_cons, List.map_nil, List.mem_singleton] at z
      subst z
      exact h.1 hj
theorem s_dct {prs : List (Ev × Ev)} (h : PPs X pos keys values (trP C prs)) (hall : keys.all (·.isSome) = true) (hl : keys.length = values.length) (h0 : keys ≠ []) (h15 : keys.length ≤ 15) : PE X (.Dict keys values pos) (tM C (mDct prs)) :=
  (pe_disp h hall hl h0 h15).imp fun σ H Q ⟨ρ, st, μ, F, h1, h2, h3⟩ p hp => by
    obtain ⟨s1, x1⟩ := h2.newly (o := .dK []) hp
    have dd := h2.dead hp
    refine pairs_ok prs h1 s1 ?_
    have h3 : PostE (C.at σ) Q μ F H ((mPairs prs ρ st).bind fun kvs s => if (keysD kvs).isSome = true ∧ kvs.length ≤ 15 then .ok (.n (.m kvs)) s else .no) := h3
    cases q : mPairs prs ρ st with
    | er e s => rw [q] at h3; exact Erw.later x1 h3
    | no => rw [q] at h3; exact h3
    | ok kvs s =>
      rw [q] at h3
      have h3 : PostE (C.at σ) Q μ F H (if (keysD kvs).isSome = true ∧ kvs.length ≤ 15 then .ok (.n (.m kvs)) s else .no) := h3
      intro ps μ2 F2 H2 x2 r2 d2
      by_cases hc : (keysD kvs).isSome = true ∧ kvs.length ≤ 15
      · rw [if_pos hc] at h3
        obtain ⟨ks, hk⟩ := Option.isSome_iff_exists.mp hc.1
        obtain ⟨ws, rfl, g2, g3, g4⟩ := keysD_ok d2 hk
        obtain ⟨k1, k2, k3⟩ := x2.keepOut (L := p) upd_same dd.1 dd.2
        have hlen : ws.length = kvs.length := by
          have : ∀ {ws : List (Key × V)} {kvs : List (PyData × PyData)}, DqKv C.K F2 ws kvs → ws.length = kvs.length := by
            intro ws kvs h
            induction ws generalizing kvs with
            | nil => cases h; rfl
            | cons w ws ih => cases h with | cons a b => rw [List.length_cons, List.length_cons, ih b]
          exact this g2
        refine ⟨k1, ws, rfl, by rw [hlen]; exact hc.2, ?_⟩
        rw [mergeK_nodup ws [] (by rw [g3]; exact g4) fun _ _ => by simp, List.nil_append]
        have xx := (x1.trans x2).out (L := p) (u := .dK ws) hp (.inr trivial)
        exact h3 _ μ2 F2 _ ⟨xx, r2.out k2 k3, ⟨p, _, rfl, upd_same, .inl ⟨ws, rfl, g2⟩, k2, k3⟩, fun _ _ => ⟨p, rfl, hp⟩⟩
      · rw [if_neg hc] at h3; exact False.elim h3
/-! ### reading a dict by a key -/
def keyB : PyData → PyData → Bool
  | .int i, .int j => decide (i = j)
  | .str x, .str y => decide (x = y)
  | _, _ => false
def lookK : List (PyData × PyData) → PyData → Option PyData
  | [], _ => none
  | (j, v) :: r, k => if keyB j k then some v else lookK r k
theorem keyB_kD {k j : Key} : keyB (kD j) (kD k) = decide (j = k) := by
  cases j <;> cases k <;> simp [keyB, kD]
def OptOk (K : Kw) (F : Hp) : Option V → Option PyData → Prop
  | some v, some d => Dq K F v d
  | none, none => True
  | _, _ => False
theorem lookK_ok {K : Kw} {k : Key} : ∀ {ws : List (Key × V)} {kvs : List (PyData × PyData)}, DqKv K F ws kvs → OptOk K F (valV ws k) (lookK kvs (kD k))
  | _, _, .nil => trivial
  | (j, v) :: ws, _, .cons (d := d) h t => by
    unfold lookK valV
    rw [List.find?_cons, keyB_kD]
    cases q : decide (j = k) with
    | true => exact h
    | false => exact lookK_ok t
def vRv : Vl → Rv
  | .d x => .d x
  | .c i => .c i
  | .s ns => .s ns
  | .o x => .o x
theorem vRv_ok {K : Kw} {H : Hp} {x : Vl} {v : V} (h : Vok K F μ x v) : Rok K F μ H (vRv x) v := by cases x <;> exact h
theorem dic_of {K : Kw} {v : V} {kvs : List (PyData × PyData)} (h : Vw K F H v (.dict kvs)) (f : flK kvs = true) : ∃ a ws, v = .ref a ∧ H a = some (.dK ws) ∧ DqKv K F ws kvs := h.flat_dict f
/-- d.get(k, x) -/
def mDGet2 (md mk mx : Ev) : Ev := fun ρ st => (mV md ρ st).bind fun x s1 => match view s1 x with
  | some (.dict kvs0) => if flK kvs0 = true then (mV mk ρ s1).bind fun y s2 => (mV mx ρ s2).bind fun z s3 => match view s3 x, y with
    | some (.dict kvs), .d y => if flK kvs = true then (if (keyD y).isSome then (match lookK kvs y with
      | some v => .ok (.d v) s3
      | none => .ok (vRv z) s3) else .no) else .no
    | _, _ => .no else .no
  | _ => .no
variable {a b c : Expr} {ma mb mc : Ev} {apos : Pos}
theorem y_dget2 (hu : X.A.units + 64 < cLine) (ha : PE X a (tM C ma)) (hb : PE X b (tM C mb)) (hc : PE X c (tM C mc)) (m : M2 X a "get" apos b c pos) : PE X (.Call (.Attribute a "get" apos) [b, c] [] pos) (tM C (mDGet2 ma mb mc)) :=
  (pe_dget2 (Nat.lt_of_le_of_lt (Nat.add_le_add_left (by decide) _) hu) (pv_frz ha) (pv_frz hb) (pv_frz hc) m).imp fun σ H Q ⟨ρ, st, μ, F, h1, h2, h3⟩ => ⟨ρ, st, μ, F, h1, h2, Post.bindV gE_lat h3 fun x s v μ1 F1 H1 x1 r1 k1 h4 => by
    cases q1 : view s x with
    | none => simp only [q1] at h4; exact False.elim h4
    | some dx =>
      cases dx with
      | dict kvs0 =>
        simp only [q1] at h4
        by_cases hf0 : flK kvs0 = true
        case neg => rw [if_neg hf0] at h4; exact False.elim h4
        rw [if_pos hf0] at h4
        obtain ⟨p, ws0, rfl, g1, _⟩ := dic_of (view_ok r1 k1 q1) hf0
        refine ⟨p, rfl, .inl ⟨ws0, .inl g1⟩, ρ, s, μ1, F1, h1.ext x1, r1, Post.bindV gE_lat h4 fun y s2 u μ2 F2 H2 x2 r2 k2 h5 => ⟨ρ, s2, μ2, F2, (h1.ext x1).ext x2, r2, Post.bindV gE_lat h5 fun z s3 w μ3 F3 H3 x3 r3 k3 h6 => ?_⟩⟩
        cases q2 : view s3 x with
        | none => simp only [q2] at h6; exact False.elim h6
        | some dx =>
          cases dx with
          | dict kvs =>
            by_cases hf : flK kvs = true
            case neg =>
              cases y with
              | d y => simp only [q2] at h6; rw [if_neg hf] at h6; exact False.elim h6
              | c _ => simp only [q2] at h6; exact False.elim h6
              | s _ => simp only [q2] at h6; exact False.elim h6
              | o _ => simp only [q2] at h6; exact False.elim h6
            obtain ⟨p', ws, e', g2, g3⟩ := dic_of (view_ok r3 ((k1.ext x2).ext x3) q2) hf
            cases e'
            cases y with
            | c _ => simp only [q2] at h6; exact False.elim h6
            | s _ => simp only [q2] at h6; exact False.elim h6
            | o _ => simp only [q2] at h6; exact False.elim h6
            | d y =>
              simp only [q2] at h6
              rw [if_pos hf] at h6
              cases q3 : keyD y with
              | none => simp only [q3] at h6; exact False.elim h6
              | some k =>
                obtain ⟨e4, e5⟩ := keyD_ok k2 q3
                subst e4 e5
                simp only [q3, Option.isSome_some, if_true] at h6
                refine ⟨_, .k g2, ?_⟩
                have hk := lookK_ok (k := k) g3
                cases q4 : lookK kvs (kD k) with
                | some d =>
                  rw [q4] at hk h6
                  cases q5 : valV ws k with
                  | none => rw [q5] at hk; exact False.elim hk
                  | some v => rw [q5] at hk; exact h6 _ _ _ _ ⟨Ext.refl, r3, hk, fun c z => by cases z⟩
                | none =>
                  rw [q4] at hk h6
                  cases q5 : valV ws k with
                  | some _ => rw [q5] at hk; exact False.elim hk
                  | none => exact h6 _ _ _ _ ⟨Ext.refl, r3, vRv_ok k3, fun c e => by cases z <;> cases e⟩
          | _ => simp only [q2] at h6; exact False.elim h6
      | _ => simp only [q1] at h4; exact False.elim h4⟩
/-- {} -/
def mD0 : Ev := fun _ st => .ok (.n (.m [])) st
theorem s_d0 : PE X (.Dict [] [] pos) (tM C mD0) := pe_dnewK.imp fun σ H Q ⟨ρ, st, μ, F, h1, h2, h3⟩ p hp => by
  obtain ⟨s1, x1⟩ := h2.newly (o := .dK []) hp
  have dd := h2.dead hp
  exact h3 _ μ F _ ⟨x1, s1, ⟨p, _, rfl, upd_same, .inl ⟨[], rfl, .nil⟩, dd.1, dd.2⟩, fun _ _ => ⟨p, rfl, hp⟩⟩
end
end Cp
/-! Ce: errors of the program's own: raised, caught, kept in a name, asked. -/
namespace Cp
open PySem PySem.Spec PyProof.Rows L2
section
variable {X : Cx} {C : Addr} {bmB : List Value} {B newId initId : String}
/-- X(), made without arguments -/
theorem pmk_own0 {x : Str} {p pos : Pos} (F : ExcBaseFacts B newId initId bmB) (q : PySem.W.excIn X.K C bmB newId = true) (gC : X.mg x = some (.ref C)) (kC : PySem.W.keepIn X.K (.ref C) = true) (r : Raises X (.ref C)) (hg : Gl X x)
    (hdb : (x == ("__debug__" : Str)) = false := by decide) : PMk X (.Call (.Name x p) [] [] pos) (fun _ H Q => Q (.ref C) none H) := by
  intro pins s σ H Q I h
  refine wpAny_Call_Name_kw (ld_glob I hg gC ?_ hdb)
  refine PySem.W.callWith_K0 I.kIn kC ?_
  show wpAny _ _ (call (.ref C) []) _ _ _
  obtain ⟨bm, N, nm, qn, bs, hdct, sn, sub, ab, col, dd, k0, k1, k2, k3, k5, mN, hC, hN, hni, T⟩ := exc_obj I.kIn q
  refine wpAny_call_exc_subT F T hC hN hni (fun h' e hm => ?_) (Nat.zero_le _)
  exact mk_of I hm r h (I.hok.gone hm.new)
/-- raise X() -/
def sRaise (x : Str) : Sv := fun _ st => .er ⟨x, none⟩ st
theorem x_raise0 {k : Nat} {Cc : Cn} {x : Str} {p pos pos' : Pos} (Bb : Bd k X Cc) (gC : X.mg x = some (.ref (He.ga X.K x)))
    (c : PySem.W.excIn X.K (He.ga X.K x) He.veBase "ValueError.__new__" = true ∧ PySem.W.keepIn X.K (.ref (He.ga X.K x)) = true ∧ PySem.W.subIn X.K (.ref (He.ga X.K x)) (.type "BaseException") = some true ∧ PySem.W.typeIn X.K (.ref (He.ga X.K x)) = some (.type "type"))
    (hg : Gl X x) (hdb : (x == ("__debug__" : Str)) = false := by decide) : PS X (.Raise (some (.Call (.Name x p) [] [] pos)) none pos') (tS Cc (sRaise x)) :=
  (ps_raise Bb.cm Bb.tk (pmk_own0 PySem.F.excBase_ValueError c.1 gC c.2.1 (raises_own c.2.2.1 c.2.2.2) hg hdb)).imp fun D σ H ⟨ρ, st, μ, F, h1, h2, h3⟩ => by
    have h3 : Erw (Cc.at σ) μ F H ⟨x, none⟩ st := h3
    exact h3 (.ref (He.ga X.K x)) none μ F H Ext.refl h2 ⟨by rw [← Bb.hK], rfl⟩
end

/-- raise X(e): the value is data -/
def sRaise1 (x f : Str) (ma : En → Sto → Res (List Vl)) : Sv := fun ρ st => (ma ρ st).toS fun xs s => match xs with
  | [.d y] => .er ⟨x, some (f, y)⟩ s
  | _ => .no
/-! ### try: body, except x as n: suite, the error kept -/
theorem erO_ok {P : Program} {w : World} {H : Hp} {h : Heap} {a : Addr} {cls : Value} {d : Option Addr} {oe : Obj} {vs : Array Value} (he : h.get? a = some oe) (hz : Zc cls d oe) (hd : oe.data = .fields vs) : ObjOk P w H h a (erO a cls d) :=
  ⟨⟨oe, vs, he, hz, hd⟩, ⟨oe, he⟩, fun h1 h2 ⟨o, v, e1, e2, e3⟩ k => ⟨o, v, k _ e1, e2, e3⟩⟩
section
variable {X : Cx} {pins : List (Addr × Obj)} {σ : L2.St} {H : Hp} {sI s s' : Shared} {B : Heap}
/-- back on the ground, the error tracked -/
theorem landedT {a : Addr} {o : HO} (I : Inv X pins σ H sI) (nb : ∀ b o, sI.heap.get? b = some o → b ∉ frs X.stack → B.get? b = some o) (st : B.StaysIn s'.heap) (up : sI.heap.UpToSlots s'.heap) (os : s'.os = sI.os) (ag : AllBare s'.gens)
    (ha : sI.heap.get? a = none) (hn : H a = none) (new : ObjOk X.prog X.w (upd H a o) s'.heap a o) : Inv X pins σ (upd H a o) s' := by
  have nf : ∀ b ∈ frs X.stack, ∀ o, sI.heap.get? b = some o → ∃ sl, s'.heap.get? b = some { o with slots := sl } := fun b hb o e => by
    obtain ⟨_, o', e', hd⟩ := I.stack.mem hb
    rw [e] at e'; cases e'
    exact up b o e hd
  have na : ∀ {b o}, sI.heap.get? b = some o → b ≠ a := fun {b o} e z => by rw [z, ha] at e; cases e
  have J := I.call (ch := []) (h' := s'.heap) (g' := s'.gens) (t' := s'.toks) (d' := s'.drawn) (H' := upd H a o)
    ⟨fun b o e _ hb _ => st b o (nb b o e hb), fun b o e _ hb _ => nf b hb o e, fun b o e n _ => by rw [upd_ne (na e)]; exact n, fun b o e _ => by
      by_cases hb : b ∈ frs X.stack
      · obtain ⟨sl, q⟩ := nf b hb o e
        exact ⟨_, q⟩
      · exact ⟨o, st b o (nb b o e hb)⟩, fun _ _ e => by rw [upd_ne (ne_of_none e hn)]; exact e, fun _ _ _ e => by rw [upd_ne (ne_of_none e hn)]; exact e, fun b ps e => ⟨#[], by rw [upd_ne (ne_of_none e hn), e]; simp⟩⟩
    ((I.inGround nb).laidN st hn new) ag (fun _ z => nomatch z)
  obtain ⟨a1, a2, a3, a4, a5⟩ := s'
  have e5 : a5 = sI.os := os
  subst e5
  exact J
abbrev Xs (X : Cx) (a : Addr) (pn : List (Addr × Obj)) : Cx := X.suite a pn
theorem suiteT (I : Inv X pins σ H s) (a : Addr) : Inv (X.suite a (X.pn ++ pins)) [] σ H s :=
  ⟨I.ok.suite _ _, I.os, I.bare, I.base, I.loc, I.cell, I.free, I.freeC, fun p hp => I.pin p (by rw [List.append_nil] at hp; exact hp), I.hok, I.len⟩
theorem unsuiteT {a : Addr} {pn' : List (Addr × Obj)} (I : Inv (X.suite a (X.pn ++ pins)) pn' σ H s) (ok : X.Ok) : Inv X pins σ H s :=
  ⟨ok, I.os, I.bare, I.base, I.loc, I.cell, I.free, I.freeC, fun p hp => I.pin p (List.mem_append_left _ hp), I.hok, I.len⟩
end
def wTry (K : PySem.W.Frag) (c : Value) (i : Nat) (ts : TS) (Wout : WX) (D : Ends) : WX := fun cls d σ H =>
  ∃ b, PySem.W.exmOne K cls c = some b ∧ (b = true → ∀ a, H a = none → ts { nx := fun σ' H' => D.nx (σ'.set i none) H', rt := D.rt, bk := fun σ' H' => D.bk (σ'.set i none) H', ct := fun σ' H' => D.ct (σ'.set i none) H' } (σ.set i (some (.ref a))) (upd H a (erO a cls d))) ∧
    (b = false → Wout cls d σ H)
section
variable {X : Cx} {x n : Str} {c : Value} {i : Nat} {body suite : List Stmt} {b₀ : Stmt} {np pos pos' : Pos} {tb : WX → TS} {ts : TS} {Wout : WX}
theorem ps_try_keep (hs : X.stack = X.env :: X.outer) (hf : X.env.frame = some X.env.locals) (hN : X.N.Nodup) (hi : X.N[i]? = some n) (hln : X.env.kindOf n = some .local) (hc : Names X x c) (tk : Takes X Wout)
    (hb : ∀ (W : WX) (pn : List (Addr × Obj)) (xe : Value → Shared → Prop), Takes (X.tr pn xe) W → PassesOwn (model X.prog X.w) X.A X.env xe → PSs (X.tr pn xe) body (tb W))
    (hsu : ∀ (a : Addr) (pn : List (Addr × Obj)), PSs (X.suite a pn) (b₀ :: suite) ts) :
    PS X (.Try body [.ExceptHandler (some (.Name x np)) (some n) (b₀ :: suite) pos'] [] [] pos) (fun D σ H => tb (wTry X.K c i ts Wout D) D σ H) := by
  refine ⟨fun pins s σ H D I h => ?_⟩
  have ok := I.ok
  have hfr : X.A.frames = some (X.env :: X.outer) := by rw [ok.frames, hs]
  have hloc : Loc X.env.scope n := .inl hln
  refine wpAny_Try_except ?_
  refine wpAny_mono ((hb (wTry X.K c i ts Wout D) (X.pn ++ pins) (fun e s₁ => wpAny (model X.prog X.w) X.A (noteFrame e X.env) (fun _ s₂ => wpAny (model X.prog X.w) X.A (setFlight e none) (fun _ s₃ =>
    wpAny (model X.prog X.w) X.A (handleBy e X.env [.ExceptHandler (some (.Name x np)) (some n) (b₀ :: suite) pos']) (SP X pins D) X.xe s₃) X.xe s₂) X.xe s₁) (fun u s' xx => ?_) PassesOwn.looking).run [] s σ H D (I.toTry _) h) (fun f s1 hsp => ?_) (fun e s1 he => he)
  · obtain ⟨a, B, sI, pins', σ', H', cls, d, rfl, J', nb, up, sky, na, os, ag, b, hb1, hyes, hno⟩ := xx
    have J : Inv X pins σ' H' sI := J'.ofTry ok
    have sky' : Sky B (X.env :: X.outer) a (Zc cls d) X.env.locals s'.heap := by rw [← hs]; exact sky
    show wpAny (model X.prog X.w) X.A (noteFrame (.ref a) X.env) _ _ _
    refine Sky.land Zc.steady hfr hf sky' fun h3 fl3 up3 => ?_
    have J3 : Inv X pins σ' H' { s' with heap := h3 } := J.landed nb fl3.1 (up.trans up3) os ag
    obtain ⟨oe3, vs3, he3, hz3, hd3⟩ := fl3.there
    have notFr : ∀ {h : Heap} {o : Obj} {vs : Array Value}, h.FunFrames B (X.env :: X.outer) → h.get? a = some o → o.data = .fields vs → a ∉ frs (X.env :: X.outer) := fun {h o vs} ff e dd hm => by
      obtain ⟨_, o', e', hnf⟩ := ff.mem hm
      rw [e] at e'; cases e'
      exact hnf _ dd
    have nfr := notFr fl3.2.2.1 he3 hd3
    have nL : a ≠ X.env.locals := fun z => nfr (List.mem_filterMap.mpr ⟨X.env, List.mem_cons_self, by rw [hf, z]⟩)
    have nF : a ∉ X.fs := fun hm => by
      obtain ⟨e, he, q⟩ := List.mem_filterMap.mp hm
      exact nfr (List.mem_filterMap.mpr ⟨e, List.mem_cons_of_mem _ he, q⟩)
    have nI : sI.heap.get? a = none := by
      cases q : sI.heap.get? a with
      | none => rfl
      | some o =>
        have z := nb a o q (by rw [hs]; exact nfr)
        rw [fl3.2.1] at z; cases z
    have S3 := J3.suite he3 hd3 na nL nF
    refine wpAny_handleBy_cons (codeAny_handlers_test ?_) (by intro q; cases q)
    have LT : PySem.W.Looks (model X.prog X.w) h3 (typeOf (.ref a)) cls := fun A Q E s k q => wpAny_typeOf_ref (k _ _ he3) (by rw [hz3.1]; exact q)
    have LM := PySem.W.exm_one (M := model X.prog X.w) (J3.kIn) LT hb1
    have test : ∀ {Q : Value → Shared → Prop} {E : Value → Shared → Prop}, Q c { s' with heap := h3 } → wpAny (model X.prog X.w) (X.A.mark (some (.ref a))) (eval (.Name x np) X.env) Q E { s' with heap := h3 } := fun {Q E} q => by
      obtain ⟨hg, hdbg, hm | ⟨hm, hv, hnn⟩⟩ := hc
      · exact ld_glob (X := X.suite a ((a, oe3) :: (X.pn ++ pins))) S3 hg hm q hdbg
      · exact ld_blt (X := X.suite a ((a, oe3) :: (X.pn ++ pins))) S3 hg hm hv q hnn hdbg
    refine test (LM.here ?_)
    cases b with
    | true =>
      refine codeAny_handlers_suite_as ?_
      refine HandSPX.lands_againZ fl3 fun h4 fl4 up4 => ?_
      obtain ⟨oe4, vs4, he4, hz4, hd4⟩ := fl4.there
      have J4 : Inv X pins σ' (upd H' a (erO a cls d)) { s' with heap := h4 } := landedT J nb fl4.1 ((up.trans up3).trans up4) os ag nI na (erO_ok he4 hz4 hd4)
      have S4 := suiteT J4 a
      refine store_ok (X := X.suite a (X.pn ++ pins)) (v := .ref a) S4 hN hi hloc rfl (fun s5 S5 => ?_) (.inr hln)
      refine wpAny_mono ((hsu a (X.pn ++ pins)).run [] s5 _ _ _ S5 (hyes rfl a na)) (fun f s6 hsp => ?_) (fun _ _ z => False.elim z)
      have end_ : ∀ {σ6 : L2.St} {H6 : Hp} {Q : Shared → Prop}, Inv (X.suite a (X.pn ++ pins)) [] σ6 H6 s6 → (∀ s7, Inv X pins (σ6.set i none) H6 s7 → Q s7) →
          wpAny (model X.prog X.w) X.A (do bindName X.env n .none; unbindBehindTheSuite X.env n pos') (fun _ s7 => Q s7) X.xe s6 := fun {σ6 H6 Q} S6 hq => gone_ok (unsuiteT S6 ok) hN hi hln hq
      cases f with
      | next =>
        obtain ⟨σ6, H6, S6, q6⟩ := hsp
        exact end_ S6 fun s7 J7 => ⟨_, _, J7, q6⟩
      | brk =>
        obtain ⟨σ6, H6, S6, q6⟩ := hsp
        exact end_ S6 fun s7 J7 => ⟨_, _, J7, q6⟩
      | cont =>
        obtain ⟨σ6, H6, S6, q6⟩ := hsp
        exact end_ S6 fun s7 J7 => ⟨_, _, J7, q6⟩
      | ret u =>
        obtain ⟨v6, σ6, H6, S6, r6, q6⟩ := hsp
        exact end_ S6 fun s7 J7 => ⟨_, _, _, J7, r6, q6⟩
    | false =>
      show wpAny _ X.A (handleBy (.ref a) X.env []) _ _ _
      refine wpAny_handleBy_nil ?_
      obtain ⟨k1, k2, k3, oe, vs, T, oT, ts', he, hz, hd, h1, hr⟩ := id fl3
      unfold PySem.passOn
      refine wpAny_bind (wpAny_field he hd h1 ?_)
      rw [if_neg (show ¬ ((Value.ref T == Value.none) = true) from by simp)]
      have fin : wpAny (model X.prog X.w) X.A (setFlight (.ref a) X.env.frame) (fun _ s4 => wpAny (model X.prog X.w) X.A (throw (.ref a) : Sem Flow) (SP X pins D) X.xe s4) X.xe { s' with heap := h3 } := by
        rw [hf]
        refine HandSPX.setFlight_upZ fl3 fun h4 hh4 up4 => wpAny_throw (tk _ _ ?_)
        exact ⟨a, B, sI, pins, σ', H', cls, d, rfl, J, nb, (up.trans up3).trans up4, .inr (.inr (by rw [hs]; exact hh4)), na, os, ag, hno rfl⟩
      first
        | exact wpAny_bind (wpAny_pure (wpAny_bind fin))
        | exact wpAny_bind fin
  · cases f with
    | next =>
      obtain ⟨σ', H', J', q⟩ := hsp
      exact wpAny_execs_nil ⟨σ', H', J'.ofTry ok, q⟩
    | brk =>
      obtain ⟨σ', H', J', q⟩ := hsp
      exact ⟨σ', H', J'.ofTry ok, q⟩
    | cont =>
      obtain ⟨σ', H', J', q⟩ := hsp
      exact ⟨σ', H', J'.ofTry ok, q⟩
    | ret u =>
      obtain ⟨v, σ', H', J', r, q⟩ := hsp
      exact ⟨v, σ', H', J'.ofTry ok, r, q⟩
end
/-- which of the named classes an except clause takes -/
abbrev Cat := List (Str × Bool)
/-- try: .. except .. as n (slot i): suite -/
def sTry (i : Nat) (cat : Cat) (sb ss : Sv) : Sv := fun ρ st => match sb ρ st with
  | .er e s => match cat.lookup e.cls with
    | some true => match ss (ρ.set i (some (.o (.er e)))) s with
      | .nx ρ' s' => .nx (ρ'.set i none) s'
      | .bk ρ' s' => .bk (ρ'.set i none) s'
      | .ct ρ' s' => .ct (ρ'.set i none) s'
      | .rt r s' => .rt r s'
      | .er _ _ => .no
      | .no => .no
    | some false => .er e s
    | none => .no
  | r => r
theorem eok_unset {K : Kw} {F : Hp} {μ : List Addr} {ρ : En} {σ : L2.St} {i : Nat} (h : Eok K F μ ρ σ) : Eok K F μ (ρ.set i none) (σ.set i none) := by
  refine ⟨by simp [h.1], fun j y e => ?_⟩
  by_cases hj : i = j
  · subst hj
    by_cases hi : i < ρ.length
    · rw [List.getElem?_set_self hi] at e; cases e
    · rw [List.getElem?_eq_none (by simpa using hi)] at e; cases e
  · rw [List.getElem?_set_ne hj] at e
    obtain ⟨w, h1, h2⟩ := h.2 j y e
    exact ⟨w, by rw [List.getElem?_set_ne hj]; exact h1, h2⟩
section
variable {X : Cx} {C : Cn} {k : Nat} {x n : Str} {i : Nat} {b : Stmt} {suite : List Stmt} {b₀ : Stmt} {np pos pos' : Pos} {sb ss : Sv} {cat : Cat}
/-- the context of a try's body: what is wished hangs on the slots -/
abbrev Cn.try_ (C : Cn) (W : WX) : Cn := ⟨C.K, C.mg, W, []⟩
theorem Bd.tr (B : Bd k X C) {W : WX} {pn : List (Addr × Obj)} {xe : Value → Shared → Prop} (tk : Takes (X.tr pn xe) W) (hp : PassesOwn (model X.prog X.w) X.A X.env xe) : Bd k (X.tr pn xe) (C.try_ W) :=
  ⟨B.cm, B.nd, hp, fun σ => passAt tk σ, B.hK, B.hw, B.hm, B.rm, tk⟩
theorem x_tryAs (B : Bd k X C) (hs : X.stack = X.env :: X.outer) (hf : X.env.frame = some X.env.locals) (hi : X.N[i]? = some n) (hln : X.env.kindOf n = some .local) (gx : Gl X x) (hdb : (x == ("__debug__" : Str)) = false) (mx : X.mg x = some (.ref (He.ga X.K x)))
    (hcat : ∀ y v, cat.lookup y = some v → PySem.W.exmOne X.K (.ref (He.ga X.K y)) (.ref (He.ga X.K x)) = some v)
    (hb : ∀ (W : WX) (pn : List (Addr × Obj)) (xe : Value → Shared → Prop), Bd k (X.tr pn xe) (C.try_ W) → PSs (X.tr pn xe) [b] (tS (C.try_ W) sb))
    (hsu : ∀ (a : Addr) (pn : List (Addr × Obj)), PSs (X.suite a pn) (b₀ :: suite) (tS C.quiet ss)) :
    PS X (.Try [b] [.ExceptHandler (some (.Name x np)) (some n) (b₀ :: suite) pos'] [] [] pos) (tS C (sTry i cat sb ss)) :=
  (ps_try_keep (i := i) (c := .ref (He.ga X.K x)) hs hf B.nd hi hln ⟨gx, hdb, .inl mx⟩ B.tk (fun W pn xe tk hp => hb W pn xe (B.tr tk hp)) hsu).imp fun D σ H ⟨ρ, st, μ, F, h1, h2, h3⟩ => ⟨ρ, st, μ, F, h1, h2, by
    show PostS ((C.try_ _).at σ) D μ F H (sb ρ st)
    unfold sTry at h3
    cases q : sb ρ st with
    | nx ρ' s => simp only [q] at h3; exact h3
    | bk ρ' s => simp only [q] at h3; exact h3
    | ct ρ' s => simp only [q] at h3; exact h3
    | rt r s => simp only [q] at h3; exact h3
    | no => simp only [q] at h3; exact h3
    | er e s =>
      simp only [q] at h3
      intro cls dd μ' F' H' x1 r1 ⟨k1, k2⟩
      show wTry X.K _ i _ _ D cls dd σ H'
      have hK : C.K.K = X.K := B.hK
      cases qc : cat.lookup e.cls with
      | none => simp only [qc] at h3; exact False.elim h3
      | some v =>
        simp only [qc] at h3
        refine ⟨v, by rw [k1]; show PySem.W.exmOne X.K (.ref (He.ga C.K e.cls)) _ = _; rw [hK]; exact hcat _ _ qc, fun ev a ha => ?_, fun ev => ?_⟩
        · subst ev
          simp only at h3
          obtain ⟨r2, x2⟩ := r1.newly (o := erO a cls dd) ha
          have dd0 := r1.dead ha
          obtain ⟨r3, x3, sm⟩ := r2.freeze x2 r1.sub ha upd_same dd0.1 dd0.2
          have xx := x1.trans x3
          refine ⟨ρ.set i (some (.o (.er e))), s, μ', _, eok_set (h1.ext xx) ?_, r3, ?_⟩
          · show ObOk C.K _ (.er e) (.ref a)
            exact ⟨a, dd, rfl, by rw [upd_same, k1], k2.same sm⟩
          · show PostS (C.quiet.at _) _ μ' _ _ (ss _ s)
            cases q2 : ss (ρ.set i (some (.o (.er e)))) s with
            | nx ρ2 s2 => simp only [q2] at h3; exact fun σ' μ4 F4 H4 x4 r4 k4 => h3 _ μ4 F4 H4 (xx.trans x4) r4 (eok_unset k4)
            | bk ρ2 s2 => simp only [q2] at h3; exact fun σ' μ4 F4 H4 x4 r4 k4 => h3 _ μ4 F4 H4 (xx.trans x4) r4 (eok_unset k4)
            | ct ρ2 s2 => simp only [q2] at h3; exact fun σ' μ4 F4 H4 x4 r4 k4 => h3 _ μ4 F4 H4 (xx.trans x4) r4 (eok_unset k4)
            | rt r s2 => simp only [q2] at h3; exact gE_lat.it xx h3
            | er _ _ => simp only [q2] at h3; exact False.elim h3
            | no => simp only [q2] at h3; exact False.elim h3
        · subst ev
          simp only at h3
          exact h3 cls dd μ' F' H' x1 r1 ⟨k1, k2⟩⟩
/-- try: .. except ..: suite -/
def sTryN (cat : Cat) (sb ss : Sv) : Sv := fun ρ st => match sb ρ st with
  | .er e s => match cat.lookup e.cls with
    | some true => match ss ρ s with
      | .er _ _ => .no
      | r => r
    | some false => .er e s
    | none => .no
  | r => r
theorem x_tryN (B : Bd k X C) (hs : X.stack = X.env :: X.outer) (hf : X.env.frame = some X.env.locals) (gx : Gl X x) (hdb : (x == ("__debug__" : Str)) = false) (mx : X.mg x = some (.ref (He.ga X.K x)))
    (hcat : ∀ y v, cat.lookup y = some v → PySem.W.exmOne X.K (.ref (He.ga X.K y)) (.ref (He.ga X.K x)) = some v)
    (hb : ∀ (W : WX) (pn : List (Addr × Obj)) (xe : Value → Shared → Prop), Bd k (X.tr pn xe) (C.try_ W) → PSs (X.tr pn xe) [b] (tS (C.try_ W) sb))
    (hsu : ∀ (a : Addr) (oe : Obj) (cls : Value) (d : Option Addr) (pn : List (Addr × Obj)), Zc cls d oe → (∃ vs, oe.data = .fields vs) → PSs (X.suite a ((a, oe) :: pn)) (b₀ :: suite) (tS C.quiet ss)) :
    PS X (.Try [b] [.ExceptHandler (some (.Name x np)) none (b₀ :: suite) pos'] [] [] pos) (tS C (sTryN cat sb ss)) :=
  (ps_try_only (c := .ref (He.ga X.K x)) (ts := fun _ _ _ => tS C.quiet ss) hs hf ⟨gx, hdb, .inl mx⟩ B.tk (fun W pn xe tk hp => hb W pn xe (B.tr tk hp)) hsu).imp fun D σ H ⟨ρ, st, μ, F, h1, h2, h3⟩ => ⟨ρ, st, μ, F, h1, h2, by
    show PostS ((C.try_ _).at σ) D μ F H (sb ρ st)
    unfold sTryN at h3
    cases q : sb ρ st with
    | nx ρ' s => simp only [q] at h3; exact h3
    | bk ρ' s => simp only [q] at h3; exact h3
    | ct ρ' s => simp only [q] at h3; exact h3
    | rt r s => simp only [q] at h3; exact h3
    | no => simp only [q] at h3; exact h3
    | er e s =>
      simp only [q] at h3
      intro cls dd μ' F' H' x1 r1 ⟨k1, k2⟩
      show wOnly X.K (.ref (He.ga X.K x)) (fun _ _ _ => tS C.quiet ss) C.W D cls dd σ H'
      have hK : C.K.K = X.K := B.hK
      cases qc : cat.lookup e.cls with
      | none => simp only [qc] at h3; exact False.elim h3
      | some v =>
        simp only [qc] at h3
        refine ⟨v, by rw [k1]; show PySem.W.exmOne X.K (.ref (He.ga C.K e.cls)) _ = _; rw [hK]; exact hcat _ _ qc, fun ev a ha => ?_, fun ev => ?_⟩
        · subst ev
          simp only at h3
          refine ⟨ρ, s, μ', F', h1.ext x1, r1, ?_⟩
          show PostS (C.quiet.at _) _ μ' _ _ (ss ρ s)
          cases q2 : ss ρ s with
          | nx ρ2 s2 => simp only [q2] at h3; exact gN.later x1 h3
          | bk ρ2 s2 => simp only [q2] at h3; exact gN.later x1 h3
          | ct ρ2 s2 => simp only [q2] at h3; exact gN.later x1 h3
          | rt r s2 => simp only [q2] at h3; exact gE_lat.it x1 h3
          | er _ _ => simp only [q2] at h3; exact False.elim h3
          | no => simp only [q2] at h3; exact False.elim h3
        · subst ev
          simp only at h3
          exact h3 cls dd μ' F' H' x1 r1 ⟨k1, k2⟩⟩
end
end Cp
/-! Ch: the head's facts as Bool functions of the written part; facts of own error classes. -/
namespace Cp
open PySem PySem.Spec PyProof.Rows L2
abbrev Fb : Type := PySem.W.Frag → Bool
def obsX (fb : List Fb) (fn : List He.DefD) (K : PySem.W.Frag) : He.AlD := ((fb.all fun f => f K) && fn.all fun d => d.ok K, fn.map fun d => He.fnW K d.at_)
def SaysX (fb : List Fb) (fn : List He.DefD) (K : PySem.W.Frag) : Prop := obsX fb fn K = He.valD fn
def obsXG (n : Nat) (fb : List Fb) (fn : List He.DefD) (g : Addr → Option Obj) : He.AlD := obsX fb fn (He.frG g (He.asD g n))
def hookX (n : Nat) (fb : List Fb) (fn : List He.DefD) : PySem.W.Hook where
  α := He.AlD
  obs := fun s => obsXG n fb fn s.heap.get?
  val := fun _ => He.valD fn
  says := fun _ h => ∃ K : PySem.W.Frag, K.In h ∧ SaysX fb fn K
  of := fun _ _ e => ⟨_, He.frG_in, e⟩
  keeps := fun _ _ _ ⟨K, hK, c⟩ k => ⟨K, PySem.W.Frag.In.keeps hK k, c⟩
theorem obsXG_eq {n : Nat} {fb : List Fb} {fn : List He.DefD} {g : Addr → Option Obj} {s : Shared} (h : ∀ a, g a = s.heap.get? a) : obsXG n fb fn g = (hookX n fb fn).obs s := by
  have e : g = s.heap.get? := funext h
  rw [e] <;> rfl
section
variable {fb : List Fb} {fn : List He.DefD} {K : PySem.W.Frag}
theorem SaysX.fact (c : SaysX fb fn K) (i : Nat) {f : Fb} (h : fb[i]? = some f := by rfl) : f K = true := by
  have c1 := (He.ba (show ((fb.all fun f => f K) && fn.all fun d => d.ok K) = true from congrArg (fun z : He.AlD => z.1) c)).1
  exact List.all_eq_true.mp c1 f (List.mem_of_getElem? h)
theorem SaysX.def_ (c : SaysX fb fn K) (i : Nat) {d : He.DefD} (h : fn[i]? = some d := by rfl) : ∃ fd, FunD K d.name d.qual d.params d.body d.scope (d.dvs K) (d.kws K) (He.fAd K d.at_) fd := by
  have c2 := (He.ba (show ((fb.all fun f => f K) && fn.all fun d => d.ok K) = true from congrArg (fun z : He.AlD => z.1) c)).2
  have e : fn.map (fun d => He.fnW K d.at_) = fn.map He.DefD.val := congrArg (fun z : He.AlD => z.2) c
  have e2 : (fn.map fun d => He.fnW K d.at_)[i]? = (fn.map He.DefD.val)[i]? := by rw [e]
  rw [List.getElem?_map, List.getElem?_map, h] at e2
  exact He.DefD.funD (Option.some.inj e2) (List.all_eq_true.mp c2 d (List.mem_of_getElem? h))
end
/-! ### own error classes -/
/-- what isinstance asks of an error's class -/
structure ErrC (K : PySem.W.Frag) (C : Addr) : Prop where
  cl : (PySem.W.clsIn K C).isSome = true
  ga : PySem.W.findIn K (.ref C) "__getattribute__" = some (some (.builtin "BaseException.__getattribute__"))
  gt : PySem.W.findIn K (.ref C) "__getattr__" = some none
  su : PySem.W.subIn K (.ref C) (.type "BaseException") = some true
  kc : PySem.W.findIn K (.ref C) "__class__" = some (some (.builtin "object.__class__"))
  sp : PySem.W.specialIn K (.builtin "object.__class__") "__get__" = some (some (.builtin "getset_descriptor.__get__"))
  tk : PySem.W.takesIn K (.builtin "object.__class__") = some true
  mr : PySem.W.mroIn K C (.type "object") = some true
  hd : PySem.W.hasDictIn K C = true
def errB (x : Str) : Fb := fun K => (PySem.W.clsIn K (He.ga K x)).isSome && (He.eqO (PySem.W.findIn K (.ref (He.ga K x)) "__getattribute__") (some (some (.builtin "BaseException.__getattribute__"))) && (He.eqO (PySem.W.findIn K (.ref (He.ga K x)) "__getattr__") (some none) &&
  (decide (PySem.W.subIn K (.ref (He.ga K x)) (.type "BaseException") = some true) && (He.eqO (PySem.W.findIn K (.ref (He.ga K x)) "__class__") (some (some (.builtin "object.__class__"))) && (He.eqO (PySem.W.specialIn K (.builtin "object.__class__") "__get__") (some (some (.builtin "getset_descriptor.__get__"))) &&
  (decide (PySem.W.takesIn K (.builtin "object.__class__") = some true) && (decide (PySem.W.mroIn K (He.ga K x) (.type "object") = some true) && PySem.W.hasDictIn K (He.ga K x))))))))
theorem errB_ok {x : Str} {K : PySem.W.Frag} (h : errB x K = true) : ErrC K (He.ga K x) := by
  obtain ⟨h1, h⟩ := He.ba h
  obtain ⟨h2, h⟩ := He.ba h
  obtain ⟨h3, h⟩ := He.ba h
  obtain ⟨h4, h⟩ := He.ba h
  obtain ⟨h5, h⟩ := He.ba h
  obtain ⟨h6, h⟩ := He.ba h
  obtain ⟨h7, h⟩ := He.ba h
  obtain ⟨h8, h9⟩ := He.ba h
  exact ⟨h1, He.eqO_ok h2, He.eqO_ok h3, of_decide_eq_true h4, He.eqO_ok h5, He.eqO_ok h6, of_decide_eq_true h7, of_decide_eq_true h8, h9⟩
/-- whether the classes named are asked rightly -/
def isB (x : Str) (ys : List Str) (b : Bool) : Fb := fun K => decide (PySem.W.kitAny K (.ref (He.ga K x)) (ys.map fun y => .ref (He.ga K y)) = some b)
def isNB (ys : List Str) : Fb := fun K => decide (PySem.W.kitAny K (.type "NoneType") (ys.map fun y => .ref (He.ga K y)) = some false)
def exmB (x y : Str) (b : Bool) : Fb := fun K => decide (PySem.W.exmOne K (.ref (He.ga K x)) (.ref (He.ga K y)) = some b)
theorem kit1 {K : PySem.W.Frag} {t c : Value} {b : Bool} (h : PySem.W.kitAny K t [c] = some b) : PySem.W.kitOne K t c = some b := by
  unfold PySem.W.kitAny at h
  cases q : PySem.W.kitOne K t c with
  | none => rw [q] at h; cases h
  | some v =>
    rw [q] at h
    cases v with
    | true => exact h
    | false => exact h
/-! ### a class whose __init__ keeps one field -/
def exObjB (x : Str) : Fb := fun K => match K.lookup (He.ga K x) with
  | some ⟨.type "type", _, .cls cd, sl⟩ => (match cd.mro, sl.toList with
    | .ref C' :: bm, [_, _, _, _, some (.builtin n), _] => C' == He.ga K x && n == "ValueError.__new__" && !cd.hasDel && PySem.HandSPX.refsVE bm && cd.hasDict
    | _, _ => false)
  | _ => false
theorem exObjB_ok {x : Str} {K : PySem.W.Frag} (q : exObjB x K = true) : ∃ nm qn N bs bm sn sub ab col dd k0 k1 k2 k3 k5, K.lookup (He.ga K x) = some (excClassObj nm qn (He.ga K x) N bs bm true sn sub ab col dd k0 k1 k2 k3 k5 "ValueError.__new__") ∧ PySem.HandSPX.refsVE bm = true := by
  unfold exObjB at q
  split at q
  · rename_i dd cd sl ho
    split at q
    · rename_i C' bm k0 k1 k2 k3 n k5 hm hs
      simp only [Bool.and_eq_true, beq_iff_eq, Bool.not_eq_true'] at q
      obtain ⟨⟨⟨⟨e1, rfl⟩, hdel⟩, ht⟩, hh⟩ := q
      subst e1
      obtain ⟨nm, bs, mro, ns, qn, hd, sn, sub, ab, col, del⟩ := cd
      dsimp only at hm hdel hh
      subst hm hdel hh
      have hsl : sl = #[k0, k1, k2, k3, some (.builtin "ValueError.__new__"), k5] := by
        obtain ⟨l⟩ := sl
        simp only at hs
        rw [hs]
      subst hsl
      exact ⟨_, _, _, _, _, _, _, _, _, _, _, _, _, _, _, ho, ht⟩
    · cases q
  · cases q
end Cp
/-! Cf_value: an own error made with one value, kept as its field value. -/
namespace Cfvalue
open PySem PySem.W PySem.Calls PyProof.Rows PySem.HandSPX
def iA (p1 p2 : Pos) : Arguments := { posonlyargs := [], args := [{ arg := "self", annotation := none, pos := p1 }, { arg := "value", annotation := none, pos := p2 }], vararg := none, kwonlyargs := [], kw_defaults := [], kwarg := none, defaults := [] }
def iB (q1 q2 q3 q4 : Pos) : List Stmt := [.Assign [.Attribute (.Name "self" q1) "value" q2] (.Name "value" q3) q4]
def iS : Scope := { kind := .function, names := [(PySem.Str.ofString "self", .local), (PySem.Str.ofString "value", .local)], isGenerator := false, isCoroutine := false, more := [] }
/-- what the written part says of the class at C, and of its __init__, at fI -/
structure Txt (K : Frag) (C fI : Addr) (ql : Str) : Prop where
  cls : ∃ nm q N bs bm sn sub ab col dd k0 k1 k2 k3 k5, K.lookup C = some (excClassObj nm q C N bs bm true sn sub ab col dd k0 k1 k2 k3 k5 "ValueError.__new__") ∧ refsVE bm = true
  sa : findIn K (.ref C) "__setattr__" = some (some (.builtin "object.__setattr__"))
  noN : findIn K (.ref C) "value" = some none
  iC : findIn K (.ref C) "__init__" = some (some (.ref fI))
  tC : typeIn K (.ref fI) = some (.type "function")
  kC : keepIn K (.ref C) = true
  exC : subIn K (.ref C) (.type "BaseException") = some true
  tyC : typeIn K (.ref C) = some (.type "type")
  fn : ∃ (oc : Value) (od : Option Addr) (kV doc pm : Value) (an : Option Addr) (cdv ct : Value) (osl : Array (Option Value)) (p1 p2 q1 q2 q3 q4 : Pos),
    K.lookup fI = some ⟨oc, od, .func (fnOf "__init__" ql (iA p1 p2) (iB q1 q2 q3 q4) iS .none kV doc pm an cdv ct), osl⟩ ∧ codeIn K cdv ql = true
def txtB (x : Str) : Cp.Fb := fun K => Cp.exObjB x K && (He.eqO (findIn K (.ref (He.ga K x)) "__setattr__") (some (some (.builtin "object.__setattr__"))) && (He.eqO (findIn K (.ref (He.ga K x)) "value") (some none) && (He.eqO (findIn K (.ref (He.ga K x)) "__init__") (some (some (.ref (He.ma K (He.ga K x) "__init__")))) &&
  (decide (typeIn K (.ref (He.ma K (He.ga K x) "__init__")) = some (.type "function")) && (keepIn K (.ref (He.ga K x)) && (decide (subIn K (.ref (He.ga K x)) (.type "BaseException") = some true) && decide (typeIn K (.ref (He.ga K x)) = some (.type "type"))))))))
theorem txt_ok {K : Frag} {x ql : Str} {p1 p2 q1 q2 q3 q4 : Pos} {fd : FuncData} (h : txtB x K = true) (F : L2.FunD K "__init__" ql (iA p1 p2) (iB q1 q2 q3 q4) iS [] [] (He.ma K (He.ga K x) "__init__") fd) : Txt K (He.ga K x) (He.ma K (He.ga K x) "__init__") ql := by
  obtain ⟨h1, h⟩ := He.ba h
  obtain ⟨h2, h⟩ := He.ba h
  obtain ⟨h3, h⟩ := He.ba h
  obtain ⟨h4, h⟩ := He.ba h
  obtain ⟨h5, h⟩ := He.ba h
  obtain ⟨h6, h⟩ := He.ba h
  obtain ⟨h7, h8⟩ := He.ba h
  obtain ⟨oc, od, dV, kV, doc, pm, an, cdv, ct, osl, rfl, lk, hcd, hd, _⟩ := F.ex
  have ed : dV = .none := by
    rcases hd with ⟨_, e⟩ | ⟨e, _⟩
    · exact e
    · exact absurd rfl e
  subst ed
  exact ⟨Cp.exObjB_ok h1, He.eqO_ok h2, He.eqO_ok h3, He.eqO_ok h4, of_decide_eq_true h5, h6, of_decide_eq_true h7, of_decide_eq_true h8, oc, od, kV, doc, pm, an, cdv, ct, osl, p1, p2, q1, q2, q3, q4, lk, hcd⟩
theorem one_size (v : Value) : [v].length ≤ sizeLine := by
  rw [sizeLine_eq]
  exact (by decide : 1 ≤ 16777216)
theorem ldC {M : Model} {s : Shared} {name : Str} {scope : Scope} {L a : Addr} {cd : Value} {m : Str → Option Value} {x : Str} {pos : Pos} {v : Value} {Q : Value → Shared → Prop} {A : Around} {E : Value → Shared → Prop} (hn : s.heap.Ns L m) (hv : m x = some v) (h : Q v s)
    (hk : scope.kind = .function := by rfl) (hl : (envOfC name scope L a cd).kindOf x = some .local := by rfl) (hd : (x == ("__debug__" : Str)) = false := by decide) :
    wpAny M A (eval (.Name x pos) (envOfC name scope L a cd)) Q E s := wpAny_Name (wpAny_loadName_local hk hl hn hv h) hd
structure InitEnd (h h' : Heap) (x C dx t1 : Addr) (v : Value) : Prop where
  keep : ∀ b o, b ≠ x → h.get? b = some o → h'.get? b = some o
  obj : h'.get? x = some { cls := .ref C, dict := some dx, data := .fields #[.ref t1, .none, .none, .none, .bool false, .none] }
  dbig : h.objs.size ≤ dx
  dne : dx ≠ x
  ns : h'.Ns1 dx (fun y => if y = "value" then some v else none)
structure OwnMade (h h' : Heap) (e C d : Addr) (v : Value) : Prop where
  keep : ∀ b o, h.get? b = some o → h'.get? b = some o
  new : h.objs.size ≤ e
  obj : ∃ oe vs, h'.get? e = some oe ∧ oe.cls = .ref C ∧ oe.dict = some d ∧ oe.data = .fields vs ∧ vs[1]? = some .none
  dbig : h.objs.size ≤ d
  dne : d ≠ e
  ns : h'.Ns1 d (fun y => if y = "value" then some v else none)
section
variable {prog : Program} {w : World} {A : Around} {E : Value → Shared → Prop} {R : Result → Shared → Prop} {s : Shared} {K : Frag} {C fI : Addr} {ql : Str}
theorem init (T : Txt K C fI ql) {x t0 : Addr} {v : Value} (X : K.In s.heap) (hlim : s.heap.NoLimit) (hx : s.heap.get? x = some (excO C t0)) (hnx : K.lookup x = none) (hroom : A.depth < recursionLimit)
    (hq : ∀ h' tk dx, InitEnd s.heap h' x C dx t0 v → R (.ok (.ret .none)) { s with heap := h', toks := tk }) :
    codeAny (model prog w) A (.call (.ref fI) ⟨[.ref x, v], []⟩) R s := by
  obtain ⟨oc, od, kV, doc, pm, an, cdv, ct, osl, p1, p2, q1, q2, q3, q4, ho, hcd⟩ := T.fn
  obtain ⟨nm, q, N, bs, bm, sn, sub, ab, col, dd, k0, k1, k2, k3, k5, hC, hbm⟩ := T.cls
  have hcl : clsIn K C = some { name := nm, bases := bs, mro := .ref C :: bm, ns := N, qualname := q, hasDict := true, slotNames := sn, subclasses := sub, abstract := ab, collection := col, hasDel := false } := by unfold clsIn; rw [hC] <;> rfl
  refine Att.call_fn (binds := [("self", .ref x), ("value", v)]) X hlim ho hcd hroom (BindsTo.of_eq (by first | rfl | with_unfolding_all rfl)) (by first | rfl | decide | with_unfolding_all rfl) (fun s₁ IC => ?_) rfl rfl rfl
  obtain ⟨h₁, tk₁, rfl⟩ := IC.toInCall.same
  have k : ∀ b o, s.heap.get? b = some o → h₁.get? b = some o := IC.toInCall.keep
  have hn := IC.toInCall.ns
  have hxL : s.heap.objs.size ≠ x := Nat.ne_of_gt (Heap.lt_size hx)
  have X₁ : K.In h₁ := X.keeps k
  have hx₁ := k _ _ hx
  show wpAny _ _ (execs _ _) _ _ _
  refine wpAny_execs_cons (plainObj_wpAny_Assign_Attribute ?_)
  refine ldC (v := v) hn (by first | rfl | with_unfolding_all rfl | kernel_rfl) (ldC (v := .ref x) hn (by first | rfl | with_unfolding_all rfl | kernel_rfl) ?_)
  refine set_plain X₁ (ox := excO C t0) (od := none) ⟨hx₁, rfl, rfl, trivial⟩ T.sa ?_
  refine exc_osa X₁ hx₁ hcl (show refsVE (.ref C :: bm) = true from hbm) rfl T.noN (fun h₃ tk₃ dx k₃ dn dne hx₃ hn₃ => ?_)
  show wpAny _ _ (execs _ _) _ _ _
  have z : s.heap.objs.size < h₁.objs.size := hn.lt
  exact wpAny_execs_nil (hq h₃ tk₃ dx ⟨fun b o hb e => k₃ b o hb (k b o e), hx₃, Nat.le_of_lt (Nat.lt_of_lt_of_le z dn), dne, hn₃⟩)
theorem made (T : Txt K C fI ql) {v : Value} (X : K.In s.heap) (hlim : s.heap.NoLimit) (hroom : A.depth + 1 < recursionLimit)
    (hq : ∀ h' tk e d, OwnMade s.heap h' e C d v → R (.ok (.ret (.ref e))) { s with heap := h', toks := tk }) :
    codeAny (model prog w) A (.call (.ref C) ⟨[v], []⟩) R s := by
  obtain ⟨nm, q, N, bs, bm, sn, sub, ab, col, dd, k0, k1, k2, k3, k5, hC, hbm⟩ := T.cls
  obtain ⟨hp, g, dr, tk, os⟩ := s
  have k : ∀ b o, hp.get? b = some o → ((hp.push (kdv_tup [v])).push (excO C hp.objs.size)).get? b = some o := fun b o e => Heap.get?_push_of_some _ (Heap.get?_push_of_some _ e)
  have hget : ((hp.push (kdv_tup [v])).push (excO C hp.objs.size)).get? (hp.objs.size + 1) = some (excO C hp.objs.size) := by heap_get
  have hnx : K.lookup (hp.objs.size + 1) = none := by
    cases e : K.lookup (hp.objs.size + 1) with
    | none => rfl
    | some o =>
      have z : hp.get? (hp.objs.size + 1) = some o := X _ _ e
      exact absurd (Nat.lt_of_succ_lt (Heap.lt_size z)) (Nat.lt_irrefl _)
  refine call_own F.excBase_ValueError (fun X => refsVE_contains X bm hbm) (X _ _ hC) (looks_findIn X T.iC) (fun self => bind_fn X self T.tC) (one_size v) ?_
  refine init (s := ⟨(hp.push (kdv_tup [v])).push (excO C hp.objs.size), g, dr, tk, os⟩) T (X.keeps k) (hlim.keeps k) hget hnx ?_ fun h' tk' dx ⟨k', hx, dn, dne, hns⟩ => ?_
  · show A.depth + 1 < recursionLimit
    exact hroom
  · have old : ∀ b o, hp.get? b = some o → h'.get? b = some o := fun b o e => k' b o (Nat.ne_of_lt (Nat.lt_succ_of_lt (Heap.lt_size e))) (k b o e)
    have z : hp.objs.size + 1 + 1 ≤ dx := by
      first
        | (simpa only [Heap.size_push] using dn)
        | exact dn
        | (have q := dn; rw [Heap.size_push, Heap.size_push] at q; exact q)
    exact ⟨rfl, hq h' tk' (hp.objs.size + 1) dx ⟨old, Nat.le_succ _, ⟨_, _, hx, rfl, rfl, rfl, rfl⟩, Nat.le_trans (Nat.le_trans (Nat.le_succ _) (Nat.le_succ _)) z, dne, hns⟩⟩
end
end Cfvalue
namespace Cp
open PySem PySem.Spec PyProof.Rows L2
theorem relO_value {v : V} {v' : Value} (r : RelV v v') (f : Str) : RelO (List.lookup f [(("value" : Str), v)]) (if f = "value" then some v' else none) := by
  by_cases hw : f = "value"
  · subst hw
    rw [if_pos rfl]
    have q : List.lookup ("value" : Str) [(("value" : Str), v)] = some v := by simp [List.lookup]
    rw [q]
    exact r
  · rw [if_neg hw]
    have qw : (f == ("value" : Str)) = false := by simpa using hw
    have q2 : List.lookup f [(("value" : Str), v)] = none := by simp [List.lookup, qw]
    rw [q2]
    trivial
section
variable {X : Cx} {C fI : Addr} {ql x : Str}
def tMk_value (C : Addr) (ta : TA) : L2.St → Hp → XK → Prop := fun σ H Q => ta σ H fun vs H1 => ∃ v, vs = [v] ∧ ∀ d, H1 d = none → Q (.ref C) (some d) (upd H1 d (.xd [(("value" : Str), v)]))
theorem pmk_value {a : Expr} {ta : TA} {p pos : Pos} {k : Nat} (T : Cfvalue.Txt X.K C fI ql) (gC : X.mg x = some (.ref C)) (hr : Room k X.A) (ha : PA X [a] ta) (hg : Gl X x) (hdb : (x == ("__debug__" : Str)) = false := by decide)
    (he : starEach (a :: []) X.env = (false, eval a X.env) :: starEach [] X.env := by rfl) (hpl : (backTo pos (starEach [] X.env)).any (·.1) = false := by rfl) :
    PMk X (.Call (.Name x p) [a] [] pos) (tMk_value C ta) := by
  intro pins s σ H Q I h
  refine wpAny_Call_Name_kw (ld_glob I hg gC ?_ hdb)
  refine PySem.W.callWith_K (h₀ := X.base) I.ok.mod.kin T.kC (thn (ha.run pos pins s σ H _ I h) fun us s1 hh => ?_) he hpl
  obtain ⟨vs, H1, I1, r1, v, ev, q1⟩ := hh
  subst ev
  refine ⟨I1.kIn, ?_⟩
  cases r1 with
  | cons rv rn =>
    rename_i v' us'
    cases rn
    show wpAny _ _ (call (.ref C) [v']) _ _ _
    have hlim := I1.nolimit
    obtain ⟨hp, g, dr, tk, os⟩ := s1
    refine wpAny_call (Cfvalue.made T I1.kIn hlim (by have := hr.dp; omega) fun h' tk' e d M => ?_)
    show MkP X pins σ Q (.ref e) ⟨h', g, dr, tk', os⟩
    obtain ⟨oe, fv, hoe, hc, hd, hdat, h1⟩ := M.obj
    have hns := M.ns
    obtain ⟨G', g1, g2⟩ := restrict h' fun b => decide (b ≠ e)
    have gk : ∀ b, b ≠ e → G'.get? b = h'.get? b := fun b hb => g1 b (decide_eq_true hb)
    have ge : G'.get? e = none := g2 e (by simp)
    have old : ∀ b o, hp.get? b = some o → G'.get? b = some o := fun b o q => (gk b (Nat.ne_of_lt (Nat.lt_of_lt_of_le (Heap.lt_size q) M.new))).trans (M.keep b o q)
    have ob : ObjOk X.prog X.w (upd H1 d (.xd [(("value" : Str), v)])) G' d (.xd [(("value" : Str), v)]) :=
      ⟨_, hns.at (fun o q => (gk d M.dne).trans q), fun f => relO_value rv f⟩
    have J : Inv X pins σ (upd H1 d (.xd [(("value" : Str), v)])) ⟨G', g, dr, tk', os⟩ := I1.laid (t' := tk') old M.dbig ob
    refine ⟨e, oe, fv, ⟨G', g, dr, tk', os⟩, _, .ref C, some d, rfl, J, fun b o q => ?_, ge, hoe, ⟨hc, hd⟩, hdat, h1, ?_, rfl, I1.bare, raises_own T.exC T.tyC, q1 d (I1.hok.fresh M.dbig)⟩
    · by_cases hb : b = e
      · have q' : G'.get? b = some o := q
        rw [hb, ge] at q'; cases q'
      · exact (gk b hb).symm.trans q
    · rw [upd_ne (Ne.symm M.dne)]
      exact I1.hok.fresh M.new
/-- raise X(e) -/
theorem x_raise_value {k : Nat} {Cc : Cn} {a : Expr} {mas : En → Sto → Res (List Vl)} {p pos pos2 : Pos} (B : Bd k X Cc) (T : Cfvalue.Txt X.K (He.ga X.K x) fI ql) (gC : X.mg x = some (.ref (He.ga X.K x))) (hg : Gl X x) (ha : PA X [a] (tAs Cc mas)) (hdb : (x == ("__debug__" : Str)) = false := by decide)
    (he : starEach (a :: []) X.env = (false, eval a X.env) :: starEach [] X.env := by rfl) (hpl : (backTo pos (starEach [] X.env)).any (·.1) = false := by rfl) :
    PS X (.Raise (some (.Call (.Name x p) [a] [] pos)) none pos2) (tS Cc (sRaise1 x "value" mas)) :=
  (ps_raise B.cm B.tk (pmk_value T gC B.rm.room ha hg hdb he hpl)).imp fun D σ H ⟨ρ, st, μ, F, h1, h2, h3⟩ => ⟨ρ, st, μ, F, h1, h2, PostS.bindA h3 fun xs s vs μ1 F1 H1 x1 r1 k1 h4 => by
    match xs, k1, h4 with
    | [], _, h4 => exact False.elim h4
    | z :: _ :: _, _, h4 => cases z <;> exact False.elim h4
    | [.c _], _, h4 => exact False.elim h4
    | [.s _], _, h4 => exact False.elim h4
    | [.o _], _, h4 => exact False.elim h4
    | [.d y], .cons kv .nil, h4 =>
      refine ⟨_, rfl, fun d hd => ?_⟩
      obtain ⟨r2, x2⟩ := r1.newly (o := .xd [(("value" : Str), _)]) hd
      have dd := r1.dead hd
      obtain ⟨r3, x3, sm⟩ := r2.freeze x2 r1.sub hd upd_same dd.1 dd.2
      exact h4 _ _ μ1 _ _ x3 r3 ⟨by rw [← B.hK], ⟨d, _, rfl, upd_same, Dq.same sm kv⟩⟩⟩
end
end Cp
/-! Ci: what is asked of a caught error that a name holds: isinstance, its field, is None. -/
namespace Cp
open PySem PySem.Spec PyProof.Rows L2
section
variable {X : Cx} {C : Cn} {a b : Expr} {ma mb : Ev} {p p2 pos : Pos} {x y f : Str}
/-- the error at a, in the heap -/
theorem er_inst {pins : List (Addr × Obj)} {σ : L2.St} {H : Hp} {s : Shared} {a D : Addr} {e : Option (Str × PyData)} {F : Hp} {dd : Option Addr} {K : Kw} (I : Inv X pins σ H s) (ha : H a = some (erO a (.ref D) dd)) (sub : Same F H) (hd : ErD K F e dd) :
    ∃ ox od, PySem.W.InstAt s.heap a ox D od := by
  have ok : ObjOk X.prog X.w H s.heap a (.ext fun h => ∃ oe vs, h.get? a = some oe ∧ Zc (.ref D) dd oe ∧ oe.data = .fields vs) := I.hok a _ ha
  obtain ⟨⟨oe, vs, h1, h2, h3⟩, _⟩ := ok
  have nc : PySem.W.notCls oe = true := by unfold PySem.W.notCls; rw [h3] <;> rfl
  cases e with
  | none =>
    have hd : dd = none := hd
    subst hd
    exact ⟨oe, none, h1, h2.1, nc, by rw [h2.2]; trivial⟩
  | some fx =>
    obtain ⟨f, y⟩ := fx
    obtain ⟨d, v, rfl, e2, e3⟩ := hd
    have hx : ObjOk X.prog X.w H s.heap d (.xd [(f, v)]) := I.hok d _ (sub _ _ e2)
    obtain ⟨mA, hns, hr⟩ := hx
    obtain ⟨od, ho, hl⟩ := lookIn_ns hns
    exact ⟨oe, some od, h1, h2.1, nc, by rw [h2.2]; exact ho⟩
/-- isinstance(v, c): v an error of ours -/
def rIsO (K : PySem.W.Frag) : List V → Hp → VK → Prop := fun xs H Q => ∃ (KK : Kw) (a D cc : Addr) (dd : Option Addr) (e : Option (Str × PyData)) (F : Hp) (b : Bool), xs = [.ref a, .ref cc] ∧ H a = some (erO a (.ref D) dd) ∧ Same F H ∧ ErD KK F e dd ∧ ErrC K D ∧ PySem.W.kitOne K (.ref D) (.ref cc) = some b ∧ Q (.bl b) H
def rIsOT (K : PySem.W.Frag) : List V → Hp → VK → Prop := fun xs H Q => ∃ (KK : Kw) (a D tp : Addr) (ccs : List Addr) (dd : Option Addr) (e : Option (Str × PyData)) (F : Hp) (b : Bool), xs = [.ref a, .ref tp] ∧ H tp = some (.tup (ccs.map V.ref)) ∧ H a = some (erO a (.ref D) dd) ∧ Same F H ∧ ErD KK F e dd ∧ ErrC K D ∧
  PySem.W.kitAny K (.ref D) (ccs.map Value.ref) = some b ∧ Q (.bl b) H
theorem kitx_er {K : PySem.W.Frag} {a D : Addr} {ox : Obj} {od : Option Obj} (T : ErrC K D) : PySem.W.KitX K (.ref a) (.ref D) (fun h => PySem.W.InstAt h a ox D od) :=
  PySem.W.kitx_exc T.cl T.ga T.gt T.su T.kc T.sp T.tk T.mr
theorem call_isO : CallR X (.builtin "isinstance") (rIsO X.K) := by
  intro pins s σ H xs us Q I r h
  obtain ⟨KK, a, D, cc, dd, e, F, b, rfl, ha, sub, hd, T, hk, q⟩ := h
  obtain ⟨u1, u2, rfl, r1, r2⟩ := vals2 r
  cases (show u1 = Value.ref a from r1)
  cases (show u2 = Value.ref cc from r2)
  obtain ⟨ox, od, J⟩ := er_inst I ha sub hd
  exact PySem.W.kia_one (kitx_er T) I.kIn J hk (fun z => nomatch z) fun tk => ⟨.bl b, H, I.tok tk, rfl, q⟩
theorem refs_all {ccs : List Addr} {its : List Value} (r : Vals (ccs.map V.ref) its) : its = ccs.map Value.ref := by
  induction ccs generalizing its with
  | nil => cases r; rfl
  | cons c cs ih =>
    cases r with
    | cons h t => rw [List.map_cons, ← ih t]; cases (show _ = Value.ref c from h); rfl
theorem call_isOT : CallR X (.builtin "isinstance") (rIsOT X.K) := by
  intro pins s σ H xs us Q I r h
  obtain ⟨KK, a, D, tp, ccs, dd, e, F, b, rfl, hT, ha, sub, hd, T, hk, q⟩ := h
  obtain ⟨u1, u2, rfl, r1, r2⟩ := vals2 r
  cases (show u1 = Value.ref a from r1)
  cases (show u2 = Value.ref tp from r2)
  obtain ⟨ox, od, J⟩ := er_inst I ha sub hd
  obtain ⟨_, its, rv, o, h1, h2, n, h3⟩ := (show ObjOk X.prog X.w H s.heap tp (.tup (ccs.map V.ref)) from I.hok tp _ hT)
  have e3 := refs_all rv
  subst e3
  obtain ⟨oc, odd, dt, sl⟩ := o
  simp only at h2 h3
  subst h2 h3
  exact PySem.W.kia_tup (kitx_er T) I.kIn J h1 hk (fun z => nomatch z) fun tk => ⟨.bl b, H, I.tok tk, rfl, q⟩
theorem CallR_or {c : Value} {r r' : List V → Hp → VK → Prop} (h : CallR X c r) (h' : CallR X c r') : CallR X c (fun xs H Q => r xs H Q ∨ r' xs H Q) := fun pins s σ H xs us Q I rr hh => hh.elim (h pins s σ H xs us Q I rr) (h' pins s σ H xs us Q I rr)
/-- isinstance(e, Y), isinstance(e, (Y, Z)): an error by its class, None is none -/
def mIsE (cat : Cat) (ma : Ev) : Ev := fun ρ st => (mV ma ρ st).bind fun x s => match x with
  | .o (.er e) => match cat.lookup e.cls with
    | some k => .ok (.d (.bool k)) s
    | none => .no
  | .d .none => .ok (.d (.bool false)) s
  | _ => .no
theorem s_isE {cat : Cat} (B0 : C.K = X.K) (hg : Gl X "isinstance") (hm : X.mg "isinstance" = none) (ha : PE X a (tM C ma)) (gy : Gl X y) (my : X.mg y = some (.ref (He.ga X.K y))) (hE : ∀ z k, cat.lookup z = some k → ErrC X.K (He.ga X.K z) ∧ PySem.W.kitAny X.K (.ref (He.ga X.K z)) [.ref (He.ga X.K y)] = some k)
    (hN : PySem.W.kitAny X.K (.type "NoneType") [.ref (He.ga X.K y)] = some false) (hd : (y == ("__debug__" : Str)) = false := by decide)
    (he : starEach [a, .Name y p2] X.env = (false, eval a X.env) :: starEach [.Name y p2] X.env := by rfl) (hpl : (backTo pos (starEach [.Name y p2] X.env)).any (·.1) = false := by rfl) (he2 : starEach [.Name y p2] X.env = (false, eval (.Name y p2) X.env) :: starEach [] X.env := by rfl) :
    PE X (.Call (.Name "isinstance" p) [a, .Name y p2] [] pos) (tM C (mIsE cat ma)) :=
  (pe_callB (CallR_or call_isi call_isO) hg hm boot_isi (pa_cons (pv_frz ha) (pa_cons (pe_glob (v := .ref (He.ga X.K y)) gy my rfl hd) pa_nil he2) he) (by decide) (by decide) he hpl).imp fun σ H Q ⟨ρ, st, μ, F, h1, h2, h3⟩ => ⟨ρ, st, μ, F, h1, h2, Post.bindV gE_lat h3 fun x s v μ1 F1 H1 x1 r1 k1 h4 => by
    cases x with
    | c _ => exact False.elim h4
    | s _ => exact False.elim h4
    | d d =>
      cases d with
      | none =>
        cases (show Dq C.K F1 v .none from k1)
        exact .inl ⟨.non, .ref (He.ga X.K y), .type "NoneType", .ref (He.ga X.K y), false, rfl, .own _, .base .non, kit1 hN, fin_d r1 h4 (.bl false)⟩
      | _ => exact False.elim h4
    | o o =>
      cases o with
      | fn _ => exact False.elim h4
      | th _ => exact False.elim h4
      | fns _ => exact False.elim h4
      | er e =>
        cases q : cat.lookup e.cls with
        | none => simp only [q] at h4; exact False.elim h4
        | some k =>
          simp only [q] at h4
          obtain ⟨a, dd, rfl, e1, e2⟩ := k1
          obtain ⟨T, hk⟩ := hE _ _ q
          rw [B0] at e1
          exact .inr ⟨C.K, a, _, _, dd, e.arg, F1, k, rfl, r1.sub _ _ e1, r1.sub, e2, T, kit1 hk, fin_d r1 h4 (.bl k)⟩⟩
/-- the tuple of classes -/
theorem pa_cls : ∀ {ys : List (Str × Pos)}, (∀ q ∈ ys, Gl X q.1 ∧ X.mg q.1 = some (.ref (He.ga X.K q.1)) ∧ (q.1 == ("__debug__" : Str)) = false) → (∀ (q : Str × Pos) (r : List (Str × Pos)), starEach ((q :: r).map fun q => Expr.Name q.1 q.2) X.env = (false, eval (.Name q.1 q.2) X.env) :: starEach (r.map fun q => Expr.Name q.1 q.2) X.env) →
    PA X (ys.map fun q => Expr.Name q.1 q.2) (fun σ H Q => Q (ys.map fun q => V.ref (He.ga X.K q.1)) H)
  | [], _, _ => pa_nil
  | q :: r, h, hs => by
    obtain ⟨h1, h2, h3⟩ := h q List.mem_cons_self
    have t := pa_cons (pe_glob (pos := q.2) (v := .ref (He.ga X.K q.1)) h1 h2 rfl h3) (pa_cls (ys := r) (fun z hz => h z (List.mem_cons_of_mem _ hz)) hs) (hs q r)
    exact t
theorem s_isET {cat : Cat} {ys : List (Str × Pos)} {j : Nat} {p3 : Pos} (B0 : C.K = X.K) (hg : Gl X "isinstance") (hm : X.mg "isinstance" = none) (ha : PE X a (tM C ma)) (hys : ∀ q ∈ ys, Gl X q.1 ∧ X.mg q.1 = some (.ref (He.ga X.K q.1)) ∧ (q.1 == ("__debug__" : Str)) = false)
    (hE : ∀ z k, cat.lookup z = some k → ErrC X.K (He.ga X.K z) ∧ PySem.W.kitAny X.K (.ref (He.ga X.K z)) (ys.map fun q => .ref (He.ga X.K q.1)) = some k)
    (hN : PySem.W.kitAny X.K (.type "NoneType") (ys.map fun q => .ref (He.ga X.K q.1)) = some false) (hl : ys.length ≤ sizeLine)
    (hs : ∀ (q : Str × Pos) (r : List (Str × Pos)), starEach ((q :: r).map fun q => Expr.Name q.1 q.2) X.env = (false, eval (.Name q.1 q.2) X.env) :: starEach (r.map fun q => Expr.Name q.1 q.2) X.env)
    (he : starEach [a, .Tuple (ys.map fun q => Expr.Name q.1 q.2) j p3] X.env = (false, eval a X.env) :: starEach [.Tuple (ys.map fun q => Expr.Name q.1 q.2) j p3] X.env := by rfl) (hpl : (backTo pos (starEach [.Tuple (ys.map fun q => Expr.Name q.1 q.2) j p3] X.env)).any (·.1) = false := by rfl)
    (he2 : starEach [.Tuple (ys.map fun q => Expr.Name q.1 q.2) j p3] X.env = (false, eval (.Tuple (ys.map fun q => Expr.Name q.1 q.2) j p3) X.env) :: starEach [] X.env := by rfl) :
    PE X (.Call (.Name "isinstance" p) [a, .Tuple (ys.map fun q => Expr.Name q.1 q.2) j p3] [] pos) (tM C (mIsE cat ma)) :=
  (pe_callB (CallR_or call_isiT call_isOT) hg hm boot_isi (pa_cons (pv_frz ha) (pa_cons (pe_tup (pa_cls hys hs)) pa_nil he2) he) (by decide) (by decide) he hpl).imp fun σ H Q ⟨ρ, st, μ, F, h1, h2, h3⟩ => ⟨ρ, st, μ, F, h1, h2, Post.bindV gE_lat h3 fun x s v μ1 F1 H1 x1 r1 k1 h4 => by
    refine ⟨by rw [List.length_map]; exact hl, fun t ht => ?_⟩
    obtain ⟨r2, x2⟩ := r1.newly (o := .tup (ys.map fun q => V.ref (He.ga X.K q.1))) ht
    have hmm : ∀ l : List (Str × Pos), Paired ClsV (l.map fun q => V.ref (He.ga X.K q.1)) (l.map fun q => Value.ref (He.ga X.K q.1)) := by
      intro l
      induction l with
      | nil => exact .nil
      | cons q r ih => exact .cons (.own _) ih
    cases x with
    | c _ => exact False.elim h4
    | s _ => exact False.elim h4
    | d d =>
      cases d with
      | none =>
        cases (show Dq C.K F1 v .none from k1)
        exact .inl ⟨.non, t, _, .type "NoneType", _, false, rfl, upd_same, hmm ys, .base .non, hN, fin_d r2 (Post.later gE_lat x2 h4) (.bl false)⟩
      | _ => exact False.elim h4
    | o o =>
      cases o with
      | fn _ => exact False.elim h4
      | th _ => exact False.elim h4
      | fns _ => exact False.elim h4
      | er e =>
        cases q : cat.lookup e.cls with
        | none => simp only [q] at h4; exact False.elim h4
        | some k =>
          simp only [q] at h4
          obtain ⟨a, dd, rfl, e1, e2⟩ := k1
          obtain ⟨T, hk⟩ := hE _ _ q
          rw [B0] at e1
          refine .inr ⟨C.K, a, _, t, ys.map fun q => He.ga X.K q.1, dd, e.arg, F1, k, rfl, ?_, ?_, r2.sub, e2, T, ?_, fin_d r2 (Post.later gE_lat x2 h4) (.bl k)⟩
          · rw [List.map_map]; exact upd_same
          · rw [upd_ne (fun z => by rw [z] at e1; rw [r1.sub _ _ e1] at ht; cases ht)]; exact r1.sub _ _ e1
          · rw [List.map_map]; exact hk⟩
/-- e.f -/
def mErF (zs : List Str) (f : Str) (ma : Ev) : Ev := fun ρ st => (mV ma ρ st).bind fun x s => match x with
  | .o (.er ⟨c, some (g, y)⟩) => if g = f ∧ c ∈ zs then .ok (.d y) s else .no
  | _ => .no
theorem s_erF {zs : List Str} (B0 : C.K = X.K) (ha : PE X a (tM C ma)) (hE : ∀ z, z ∈ zs → ErrC X.K (He.ga X.K z) ∧ PySem.W.findIn X.K (.ref (He.ga X.K z)) f = some none) (hb : attributeBase a f X.env (eval a X.env) = eval a X.env := by rfl) :
    PE X (.Attribute a f pos) (tM C (mErF zs f ma)) := by
  refine ⟨fun pins s σ H Q I ⟨ρ, st, μ, F, h1, h2, h3⟩ => ?_⟩
  refine attr_of hb (thn ((pv_frz ha).run pins s σ H _ I ⟨ρ, st, μ, F, h1, h2, Post.bindV gE_lat h3 fun x s v μ1 F1 H1 x1 r1 k1 h4 => (⟨x, s, μ1, F1, r1, k1, h4⟩ : ∃ x s μ1 F1, SR C.K μ1 F1 H1 s ∧ Vok C.K F1 μ1 x v ∧ Post (C.at σ) (gE (C.at σ) Q) μ1 F1 H1 (match x with
      | .o (.er ⟨c, some (g, y)⟩) => if g = f ∧ c ∈ zs then .ok (.d y) s else .no
      | _ => .no))⟩) fun u s1 hh => ?_)
  obtain ⟨v, H1, I1, rv, x, st1, μ1, F1, r1, k1, h4⟩ := hh
  match x, k1, h4 with
  | .c _, _, h4 => exact False.elim h4
  | .s _, _, h4 => exact False.elim h4
  | .d _, _, h4 => exact False.elim h4
  | .o (.fn _), _, h4 => exact False.elim h4
  | .o (.fns _), _, h4 => exact False.elim h4
  | .o (.er ⟨_, none⟩), _, h4 => exact False.elim h4
  | .o (.er ⟨c, some (g, y)⟩), k1, h4 =>
    by_cases hc : g = f ∧ c ∈ zs
    · simp only [if_pos hc] at h4
      obtain ⟨a, dd, rfl, e1, d, w', rfl, e3, e4⟩ := k1
      cases (show u = Value.ref a from rv)
      obtain ⟨T, hno⟩ := hE c hc.2
      rw [B0] at e1
      have ok : ObjOk X.prog X.w H1 s1.heap a (.ext fun h => ∃ oe vs, h.get? a = some oe ∧ Zc (.ref (He.ga X.K c)) (some d) oe ∧ oe.data = .fields vs) := I1.hok a _ (r1.sub _ _ e1)
      obtain ⟨⟨oe, vs, g1, g2, g3⟩, _⟩ := ok
      have hx : ObjOk X.prog X.w H1 s1.heap d (.xd [(g, w')]) := I1.hok d _ (r1.sub _ _ e3)
      obtain ⟨mA, hns, hr⟩ := hx
      obtain ⟨od, ho, hl⟩ := lookIn_ns hns
      have lk : List.lookup f [(g, w')] = some w' := by rw [hc.1]; simp [List.lookup]
      obtain ⟨u, hu, ru⟩ := RelO.some_of (v := w') (o := mA f) (by rw [← lk]; exact hr f)
      have J : PySem.W.InstAt s1.heap a oe (He.ga X.K c) (some od) := ⟨g1, g2.1, by unfold PySem.W.notCls; rw [g3] <;> rfl, by rw [g2.2]; exact ho⟩
      exact HandSPX.exc_get I1.kIn J T.ga T.gt T.su (PySem.W.findObj_own T.hd hno rfl (by rw [hl, hu])) (handed_of ru) ⟨w', H1, I1.tok _, ru, fin_d r1 h4 e4⟩
    · simp only [if_neg hc] at h4
      exact False.elim h4
end
end Cp
namespace Cp
open PySem PySem.Spec PyProof.Rows L2
theorem cat_nil {P : Str → Bool → Prop} : ∀ y v, ([] : Cat).lookup y = some v → P y v := fun _ _ h => by cases h
theorem cat_cons {P : Str → Bool → Prop} {a : Str} {b : Bool} {r : Cat} (h : P a b) (hr : ∀ y v, r.lookup y = some v → P y v) : ∀ y v, ((a, b) :: r : Cat).lookup y = some v → P y v := fun y v e => by
  by_cases q : y = a
  · subst q
    simp [List.lookup] at e
    subst e; exact h
  · have q2 : (y == a) = false := by simpa using q
    simp [List.lookup, q2] at e
    exact hr y v e
theorem pa_none {P : Str × Pos → Prop} : ∀ q ∈ ([] : List (Str × Pos)), P q := fun _ h => nomatch h
theorem pa_more {P : Str × Pos → Prop} {a : Str × Pos} {r : List (Str × Pos)} (h : P a) (hr : ∀ q ∈ r, P q) : ∀ q ∈ a :: r, P q := fun q m => (List.mem_cons.mp m).elim (fun e => e ▸ h) (hr q)
theorem zs_nil {P : Str → Prop} : ∀ z, z ∈ ([] : List Str) → P z := fun _ h => nomatch h
theorem zs_cons {P : Str → Prop} {a : Str} {r : List Str} (h : P a) (hr : ∀ z, z ∈ r → P z) : ∀ z, z ∈ a :: r → P z := fun q m => (List.mem_cons.mp m).elim (fun e => e ▸ h) (hr q)
section
variable {X : Cx} {C : Cn} {a b : Expr} {ma mb : Ev} {p p2 pos : Pos}
/-- is None, is not None, of a name that may hold an error -/
def mIsNn (neg : Bool) (ma : Ev) : En → Sto → Res Bool := fun ρ st => (mV ma ρ st).bind fun x s => match x with
  | .o (.er _) => .ok neg s
  | .d d => .ok (xor neg (isNone d)) s
  | _ => .no
def rNn (neg : Bool) : R2 := fun x y H Q => y = .non ∧ Q (.bl (xor neg (decide (x = .non)))) H
theorem op_Nn0 : OpR X (compareOp .Is) (rNn false) := fun pins s σ H x y v u Q I rx ry h => op_isN pins s σ H x y v u Q I rx ry ⟨h.1, by have := h.2; rw [Bool.false_xor] at this; exact this⟩
theorem op_Nn1 : OpR X (compareOp .IsNot) (rNn true) := fun pins s σ H x y v u Q I rx ry h => op_notN pins s σ H x y v u Q I rx ry ⟨h.1, by have := h.2; rw [Bool.true_xor] at this; exact this⟩
theorem isNn_core {neg : Bool} {σ : L2.St} {ρ : En} {st : Sto} {μ : List Addr} {F H : Hp} {Q : Bool → Hp → Prop} {R : VK} (h1 : Eok C.K F μ ρ σ) (h3 : PostB (C.at σ) Q μ F H (mIsNn neg ma ρ st)) (hR : ∀ k H1, Q k H1 → R (.bl k) H1) :
    PostV (C.at σ) (fun x H1 => rNn neg x .non H1 R) μ F H (mV ma ρ st) :=
  Post.bindV gB_lat (show Post (C.at σ) (gB (C.at σ) Q) μ F H ((mV ma ρ st).bind fun x s => match x with
    | .o (.er _) => .ok neg s
    | .d d => .ok (xor neg (isNone d)) s
    | _ => .no) from h3) fun x s v μ1 F1 H1 x1 r1 k1 h4 => by
    cases x with
    | c _ => exact False.elim h4
    | s _ => exact False.elim h4
    | d d =>
      have e : decide (v = .non) = isNone d := (Vw.of r1.sub (show Dq C.K F1 v d from k1)).isN
      exact ⟨rfl, by rw [e]; exact hR _ _ (h4 μ1 F1 H1 Ext.refl r1)⟩
    | o o =>
      cases o with
      | fn _ => exact False.elim h4
      | th _ => exact False.elim h4
      | fns _ => exact False.elim h4
      | er e =>
        obtain ⟨a, dd, rfl, _⟩ := (show ObOk C.K F1 (.er e) v from k1)
        have e : decide ((V.ref a : V) = .non) = false := rfl
        exact ⟨rfl, by rw [e, Bool.xor_false]; exact hR _ _ (h4 μ1 F1 H1 Ext.refl r1)⟩
theorem isNn_T {neg : Bool} {op : CmpOp} {j} (ho : OpR X (compareOp op) (rNn neg)) (ha : PE X a (tM C ma)) (hm : behindInMarks op (.Constant .none j p2) = false) : PT X (.Compare a [op] [.Constant .none j p2] pos) (tT C (mIsNn neg ma)) := by
  have h := pt_cmpR (pos := pos) ho (pv_frz ha) (pe_non (X := X) (pos := p2) (j := j)) hm
  refine ⟨fun pins s σ H Q I ⟨ρ, st, μ, F, h1, h2, h3⟩ => h.run pins s σ H Q I ⟨ρ, st, μ, F, h1, h2, ?_⟩⟩
  exact isNn_core (R := fun x H' => ∃ k, x = V.bl k ∧ Q k H') h1 h3 fun k H1 q => ⟨k, rfl, q⟩
theorem isNn_V {neg : Bool} {op : CmpOp} {j} (ho : OpR X (compareOp op) (rNn neg)) (ha : PE X a (tM C ma)) (hm : behindInMarks op (.Constant .none j p2) = false) : PE X (.Compare a [op] [.Constant .none j p2] pos) (tM C (bV (mIsNn neg ma))) := by
  refine (pe_cmpR (pos := pos) ho (pv_frz ha) (pe_non (X := X) (pos := p2) (j := j)) hm).imp fun σ H Q ⟨ρ, st, μ, F, h1, h2, h3⟩ => ⟨ρ, st, μ, F, h1, h2, ?_⟩
  refine isNn_core (R := Q) (Q := fun k H1 => Q (.bl k) H1) h1 ?_ fun k H1 q => q
  have h3 : PostE (C.at σ) Q μ F H ((mIsNn neg ma ρ st).bind fun k s => .ok (.d (.bool k)) s) := h3
  cases q : mIsNn neg ma ρ st with
  | no => rw [q] at h3; exact h3
  | er e s => rw [q] at h3; exact h3
  | ok k s => rw [q] at h3; exact fun μ' F' H' x r => h3 (.bl k) μ' F' H' ⟨x, r, .bl k, fun _ e => nomatch e⟩
theorem t_isNn {j} (ha : PE X a (tM C ma)) : PT X (.Compare a [.Is] [.Constant .none j p2] pos) (tT C (mIsNn false ma)) := isNn_T op_Nn0 ha (nomark _)
theorem t_isNnt {j} (ha : PE X a (tM C ma)) : PT X (.Compare a [.IsNot] [.Constant .none j p2] pos) (tT C (mIsNn true ma)) := isNn_T op_Nn1 ha (nomark _)
theorem v_isNn {j} (ha : PE X a (tM C ma)) : PE X (.Compare a [.Is] [.Constant .none j p2] pos) (tM C (bV (mIsNn false ma))) := isNn_V op_Nn0 ha (nomark _)
theorem v_isNnt {j} (ha : PE X a (tM C ma)) : PE X (.Compare a [.IsNot] [.Constant .none j p2] pos) (tM C (bV (mIsNn true ma))) := isNn_V op_Nn1 ha (nomark _)
end
end Cp
/-! Cx: weakest preconditions of errors, tries, whiles, dicts. -/
namespace Cp
open PySem L2
section
variable {E : Er → Sto → Prop} {st : Sto} {ρ : En} {N B C : En → Sto → Prop} {R : Rv → Sto → Prop} {PE : Rv → Sto → Prop} {PB : Bool → Sto → Prop} {ma mb mc : Ev} {mas : En → Sto → Res (List Vl)} {cat : Cat}
@[simp] theorem W_sRaise (x : Str) : WSe E (sRaise x ρ st) N B C R = E ⟨x, none⟩ st := rfl
@[simp] theorem W_sRaise1 (x f : Str) : WSe E (sRaise1 x f mas ρ st) N B C R = WVe E (mas ρ st) fun xs s => match xs with
    | [.d y] => E ⟨x, some (f, y)⟩ s
    | _ => False := by
  unfold sRaise1; rw [WS_toS]
  congr 1; funext xs s
  cases xs with
  | nil => rfl
  | cons x r => cases r with
    | nil => cases x <;> rfl
    | cons y r => cases x <;> rfl
@[simp] theorem W_sTry (i : Nat) (sb ss : Sv) : WSe E (sTry i cat sb ss ρ st) N B C R = WSe (fun e s => match cat.lookup e.cls with
    | some true => WSe noE (ss (ρ.set i (some (.o (.er e)))) s) (fun ρ' s' => N (ρ'.set i none) s') (fun ρ' s' => B (ρ'.set i none) s') (fun ρ' s' => C (ρ'.set i none) s') R
    | some false => E e s
    | none => False) (sb ρ st) N B C R := by
  unfold sTry
  cases sb ρ st with
  | er e s =>
    show WSe E (match cat.lookup e.cls with
      | some true => _
      | some false => .er e s
      | none => .no) N B C R = match cat.lookup e.cls with
      | some true => _
      | some false => E e s
      | none => False
    cases cat.lookup e.cls with
    | none => rfl
    | some v =>
      cases v with
      | false => rfl
      | true => dsimp only; cases ss (ρ.set i (some (.o (.er e)))) s <;> rfl
  | _ => rfl
@[simp] theorem W_sTryN (sb ss : Sv) : WSe E (sTryN cat sb ss ρ st) N B C R = WSe (fun e s => match cat.lookup e.cls with
    | some true => WSe noE (ss ρ s) N B C R
    | some false => E e s
    | none => False) (sb ρ st) N B C R := by
  unfold sTryN
  cases sb ρ st with
  | er e s =>
    show WSe E (match cat.lookup e.cls with
      | some true => _
      | some false => .er e s
      | none => .no) N B C R = match cat.lookup e.cls with
      | some true => _
      | some false => E e s
      | none => False
    cases cat.lookup e.cls with
    | none => rfl
    | some v =>
      cases v with
      | false => rfl
      | true => dsimp only; cases ss ρ s <;> rfl
  | _ => rfl
@[simp] theorem W_mIsE : WVe E (mIsE cat ma ρ st) PE = WVe E (ma ρ st) fun r s => match frz r with
    | .o (.er e) => WO (cat.lookup e.cls) fun k => PE (.d (.bool k)) s
    | .d .none => PE (.d (.bool false)) s
    | _ => False := by
  unfold mIsE; rw [WV_bind, W_mV]
  congr 1; funext r s
  generalize frz r = v
  cases v with
  | o o =>
    cases o with
    | er e => dsimp only; cases cat.lookup e.cls <;> rfl
    | _ => rfl
  | d d => cases d <;> rfl
  | _ => rfl
@[simp] theorem W_mErF (zs : List Str) (f : Str) : WVe E (mErF zs f ma ρ st) PE = WVe E (ma ρ st) fun r s => match frz r with
    | .o (.er ⟨c, some (g, y)⟩) => (g = f ∧ c ∈ zs) ∧ PE (.d y) s
    | _ => False := by
  unfold mErF; rw [WV_bind, W_mV]
  congr 1; funext r s
  generalize frz r = v
  cases v with
  | o o =>
    cases o with
    | er e =>
      obtain ⟨c, a⟩ := e
      cases a with
      | none => rfl
      | some p =>
        obtain ⟨g, y⟩ := p
        dsimp only
        by_cases h : g = f ∧ c ∈ zs
        · rw [if_pos h]; exact propext ⟨fun z => ⟨h, z⟩, fun z => z.2⟩
        · rw [if_neg h]; exact propext ⟨fun z => False.elim z, fun z => absurd z.1 h⟩
    | _ => rfl
  | _ => rfl
@[simp] theorem W_mIsNn (neg : Bool) : WVe E (mIsNn neg ma ρ st) PB = WVe E (ma ρ st) fun r s => match frz r with
    | .o (.er _) => PB neg s
    | .d d => PB (xor neg (isNone d)) s
    | _ => False := by
  unfold mIsNn; rw [WV_bind, W_mV]
  congr 1; funext r s
  generalize frz r = v
  cases v with
  | o o => cases o <;> rfl
  | _ => rfl
/-! ### dicts -/
@[simp] theorem W_mD0 : WVe E (mD0 ρ st) PE = PE (.n (.m [])) st := rfl
@[simp] theorem W_mPairs_nil {PA : List (PyData × PyData) → Sto → Prop} : WVe E (mPairs [] ρ st) PA = PA [] st := rfl
@[simp] theorem W_mPairs_cons {mk mv : Ev} {r : List (Ev × Ev)} {PA : List (PyData × PyData) → Sto → Prop} : WVe E (mPairs ((mk, mv) :: r) ρ st) PA = WVe E (mk ρ st) fun x s1 => WVe E (mv ρ s1) fun y s2 => match frz x, frz y with
    | .d a, .d b => WVe E (mPairs r ρ s2) fun kvs s3 => PA ((a, b) :: kvs) s3
    | _, _ => False := by
  rw [mPairs, WV_bind, W_mV]
  congr 1; funext x s1; rw [WV_bind, W_mV]
  congr 1; funext y s2
  generalize frz x = x
  generalize frz y = y
  cases x with
  | d a => cases y with
    | d b => dsimp only; rw [WV_bind]; rfl
    | _ => rfl
  | _ => rfl
@[simp] theorem W_mDct (prs : List (Ev × Ev)) : WVe E (mDct prs ρ st) PE = WVe E (mPairs prs ρ st) fun kvs s => ((keysD kvs).isSome = true ∧ kvs.length ≤ 15) ∧ PE (.n (.m kvs)) s := by
  unfold mDct; rw [WV_bind]
  congr 1; funext kvs s
  by_cases h : (keysD kvs).isSome = true ∧ kvs.length ≤ 15
  · rw [if_pos h]; exact propext ⟨fun z => ⟨h, z⟩, fun z => z.2⟩
  · rw [if_neg h]; exact propext ⟨fun z => False.elim z, fun z => absurd z.1 h⟩
@[simp] theorem flK_nil : flK [] = true := rfl
@[simp] theorem flK_str (x : Str) (d : PyData) (r : List (PyData × PyData)) : flK ((.str x, d) :: r) = flK r := rfl
@[simp] theorem flK_int (x : Int) (d : PyData) (r : List (PyData × PyData)) : flK ((.int x, d) :: r) = flK r := rfl
@[simp] theorem vRv_eq (x : Vl) : vRv x = Rv.of x := by cases x <;> rfl
@[simp] theorem W_mDGet2 : WVe E (mDGet2 ma mb mc ρ st) PE = WVe E (ma ρ st) fun r1 s1 => match view s1 (frz r1) with
    | some (.dict kvs0) => flK kvs0 = true ∧ WVe E (mb ρ s1) fun r2 s2 => WVe E (mc ρ s2) fun r3 s3 => (match view s3 (frz r1), frz r2 with
      | some (.dict kvs), .d y => flK kvs = true ∧ (keyD y).isSome = true ∧ (match lookK kvs y with
        | some v => PE (.d v) s3
        | none => PE (Rv.of (frz r3)) s3)
      | _, _ => False)
    | _ => False := by
  unfold mDGet2; rw [WV_bind, W_mV]
  congr 1; funext r1 s1
  cases view s1 (frz r1) with
  | none => rfl
  | some d =>
    cases d with
    | dict kvs0 =>
      dsimp only
      by_cases hf0 : flK kvs0 = true
      case neg => rw [if_neg hf0]; exact propext ⟨fun z => False.elim z, fun z => absurd z.1 hf0⟩
      rw [if_pos hf0, and_iff_right hf0, WV_bind, W_mV]
      congr 1; funext r2 s2; rw [WV_bind, W_mV]
      congr 1; funext r3 s3
      generalize frz r2 = y
      cases view s3 (frz r1) with
      | none => rfl
      | some d =>
        cases d with
        | dict kvs =>
          cases y with
          | d y =>
            dsimp only
            by_cases hf : flK kvs = true
            case neg => rw [if_neg hf]; exact propext ⟨fun z => False.elim z, fun z => absurd z.1 hf⟩
            rw [if_pos hf, and_iff_right hf]
            by_cases h : (keyD y).isSome = true
            · rw [if_pos h]
              cases lookK kvs y with
              | none => rw [vRv_eq]; exact propext ⟨fun z => ⟨h, z⟩, fun z => z.2⟩
              | some v => exact propext ⟨fun z => ⟨h, z⟩, fun z => z.2⟩
            · rw [if_neg h]; exact propext ⟨fun z => False.elim z, fun z => absurd z.1 h⟩
          | _ => rfl
        | _ => rfl
    | _ => rfl
/-! ### while -/
/-- a while, by what stands while so many turns are left at most -/
theorem whGo_by {c : En → Sto → Res Bool} {b : Sv} (I : Nat → En → Sto → Prop) : ∀ (n m : Nat) {ρ : En} {st : Sto}, m < n → I m ρ st →
    (∀ k ρ s, I k ρ s → WVe E (c ρ s) fun t s1 => if t = true then ∃ k', k = k' + 1 ∧ WSe E (b ρ s1) (I k') N (I k') R else N ρ s1) → WSe E (whGo c b n ρ st) N B C R
  | 0, _, _, _, h, _, _ => absurd h (Nat.not_lt_zero _)
  | n + 1, m, ρ, st, h, h0, hs => by
    unfold whGo
    rw [WS_toS]
    refine WV_mono (hs m ρ st h0) fun t s1 ht => ?_
    cases t with
    | false => simp only [Bool.false_eq_true, if_false] at ht ⊢; exact ht
    | true =>
      simp only [if_true] at ht ⊢
      obtain ⟨k', e, hb⟩ := ht
      cases q : b ρ s1 with
      | nx ρ2 s2 => rw [q] at hb; exact whGo_by I n k' (by omega) hb hs
      | ct ρ2 s2 => rw [q] at hb; exact whGo_by I n k' (by omega) hb hs
      | bk ρ2 s2 => rw [q] at hb; exact hb
      | rt v s2 => rw [q] at hb; exact hb
      | er e s2 => rw [q] at hb; exact hb
      | no => rw [q] at hb; exact hb
end
end Cp
/-! Cy: a dict from texts to defs, and the call of what it holds. -/
namespace Cp
open PySem PySem.Spec PyProof.Rows L2
section
variable {X : Cx} {C : Cn} {k j : Nat} {p pos pos1 : Pos} {d e : Expr} {es : List Expr} {md mk : Ev} {mas : En → Sto → Res (List Vl)} {keys : List (Option Expr)} {values : List Expr}
abbrev fnW (K : PySem.W.Frag) (tbl : List (Str × Str)) : List (Key × V) := tbl.map fun p => (.inr p.1, .ref (He.ga K p.2))
abbrev fnT (K : PySem.W.Frag) (tbl : List (Str × Str)) : List (TE × TE) := tbl.map fun p => (tC (.str p.1), tC (.ref (He.ga K p.2)))
theorem fnT_ok {K : PySem.W.Frag} {σ : L2.St} {H : Hp} : ∀ {tbl : List (Str × Str)} {Q : List (V × V) → Hp → Prop}, Q (tbl.map fun p => (.str p.1, .ref (He.ga K p.2))) H → tPairs (fnT K tbl) σ H Q
  | [], _, h => h
  | p :: r, Q, h => fnT_ok (tbl := r) (Q := fun ps H3 => Q ((.str p.1, .ref (He.ga K p.2)) :: ps) H3) h
def mFns (tbl : List (Str × Str)) : Ev := fun _ st => .ok (.o (.fns tbl)) st
theorem s_fns {tbl : List (Str × Str)} (B0 : C.K = X.K) (h : PPs X pos keys values (fnT X.K tbl)) (hall : keys.all (·.isSome) = true) (hl : keys.length = values.length) (h0 : keys ≠ []) (h15 : keys.length ≤ 15) (h16 : tbl.length ≤ 15) (hn : (tbl.map (·.1)).Nodup) :
    PE X (.Dict keys values pos) (tM C (mFns tbl)) :=
  (pe_disp h hall hl h0 h15).imp fun σ H Q ⟨ρ, st, μ, F, h1, h2, h3⟩ p hp => fnT_ok (by
    refine ⟨upd_same, fnW X.K tbl, by show _ = List.map _ (List.map _ tbl); rw [List.map_map]; rfl, by show (List.map _ tbl).length ≤ _; rw [List.length_map]; exact h16, ?_⟩
    have hnd : ((fnW X.K tbl).map (·.1)).Nodup := by
      have e : (fnW X.K tbl).map (·.1) = (tbl.map (·.1)).map (fun z => (Sum.inr z : Key)) := by
        show List.map _ (List.map _ tbl) = _
        rw [List.map_map, List.map_map]; rfl
      rw [e]
      exact List.Pairwise.map _ (fun a b q e => q (Sum.inr.inj e)) hn
    rw [mergeK_nodup _ [] hnd fun _ _ => by simp, List.nil_append, upd_upd]
    obtain ⟨r2, x2⟩ := h2.newly (o := .dK (fnW X.K tbl)) hp
    have dd := h2.dead hp
    obtain ⟨r3, x3, sm⟩ := r2.freeze x2 h2.sub hp upd_same dd.1 dd.2
    exact h3 _ μ _ _ ⟨x3, r3, ⟨p, rfl, by rw [upd_same, B0]⟩, fun _ e => nomatch e⟩)
theorem fns_look {K : PySem.W.Frag} {z x : Str} : ∀ {tbl : List (Str × Str)}, tbl.lookup z = some x → valV (fnW K tbl) (.inr z) = some (.ref (He.ga K x))
  | (a, b) :: r, h => by
    show Option.map _ (List.find? _ ((Sum.inr a, V.ref (He.ga K b)) :: fnW K r)) = _
    rw [List.find?_cons]
    by_cases q : z = a
    · subst q
      simp [List.lookup] at h
      subst h
      simp
    · have q2 : (z == a) = false := by simpa using q
      simp [List.lookup, q2] at h
      have q3 : decide ((Sum.inr a : Key) = Sum.inr z) = false := decide_eq_false (fun e => q (Sum.inr.inj e).symm)
      rw [q3]
      exact fns_look h
/-- d[k](..), d a dict from texts to defs -/
def mCallF (sems : List (Str × Fs)) (md mk : Ev) (mas : En → Sto → Res (List Vl)) : Ev := fun ρ st => (mV md ρ st).bind fun x s1 => (mV mk ρ s1).bind fun y s2 => match x, y with
  | .o (.fns tbl), .d (.str z) => match (tbl.lookup z).bind fun x => sems.lookup x with
    | some sem => (mas ρ s2).bind fun xs s3 => gcR s2.length (sem xs s3)
    | none => .no
  | _, _ => .no
theorem relV_ref (a : Addr) : RelV (.ref a) (.ref a) := rfl
def TbOk (X : Cx) (j : Nat) (sems : List (Str × Fs)) : Prop := ∀ x sem, sems.lookup x = some sem → Kn X.prog X.w X.K X.mg X.base x j sem ∧ X.mg x = some (.ref (He.ga X.K x))
theorem tb_nil : TbOk X j [] := fun _ _ e => nomatch e
theorem tb_cons {i : Nat} {x : Str} {sem : Fs} {r : List (Str × Fs)} (G : Kn X.prog X.w X.K X.mg X.base x i sem) (hi : i ≤ j) (g : X.mg x = some (.ref (He.ga X.K x))) (t : TbOk X j r) : TbOk X j ((x, sem) :: r) := fun y s e => by
  by_cases q : y = x
  · subst q
    simp [List.lookup] at e
    subst e
    exact ⟨G.mono hi, g⟩
  · have q2 : (y == x) = false := by simpa using q
    simp [List.lookup, q2] at e
    exact t y s e
theorem s_callF {sems : List (Str × Fs)} (hu : X.A.units + 64 < cLine) (B : Bd k X C) (hS : TbOk X j sems) (hj : j ≤ k) (hd : PE X d (tM C md)) (hk : PE X e (tM C mk)) (hs : NoSl e) {a : Expr} (ha : PA X (a :: es) (tAs C mas))
    (he : starEach (a :: es) X.env = (false, eval a X.env) :: starEach es X.env := by rfl) (hpl : (backTo pos (starEach es X.env)).any (·.1) = false := by rfl) : PE X (.Call (.Subscript d e pos1) (a :: es) [] pos) (tM C (mCallF sems md mk mas)) := by
  obtain ⟨⟨K, w⟩, mg, W, σC⟩ := C
  obtain rfl : K = X.K := B.hK
  obtain rfl : w = X.w := B.hw
  obtain rfl : mg = X.mg := B.hm
  refine ⟨fun pins s σ H Q I ⟨ρ, st, μ, F, h1, h2, h3⟩ => ?_⟩
  show wpAny _ _ (do callWith pos (← eval (.Subscript d e pos1) X.env) [] (backTo pos (starEach (a :: es) X.env)) (backToKw pos (keywordEach [] X.env))) _ _ _
  refine wpAny_bind (thn ((pe_dget (Nat.lt_of_le_of_lt (Nat.add_le_add_left (by decide) _) hu) (pv_frz hd) (pv_frz hk) hs).run pins s σ H
    (fun v H2 => ∃ x sem s2 μ2 F2, v = .ref (He.ga X.K x) ∧ sems.lookup x = some sem ∧ SR ⟨X.K, X.w⟩ μ2 F2 H2 s2 ∧ Eok ⟨X.K, X.w⟩ F2 μ2 ρ σ ∧ PostE ((⟨⟨X.K, X.w⟩, X.mg, W, σC⟩ : Cn).at σ) Q μ2 F2 H2 ((mas ρ s2).bind fun xs s3 => gcR s2.length (sem xs s3))) I
    ⟨ρ, st, μ, F, h1, h2, Post.bindV gE_lat h3 fun x s v μ1 F1 H1 x1 r1 k1 h4 => ⟨ρ, s, μ1, F1, h1.ext x1, r1, Post.bindV gE_lat h4 fun y s2 u μ2 F2 H2 x2 r2 k2 h5 => ?_⟩⟩) fun u s1 ⟨v, H1, I1, rv, x, sem, s2, μ2, F2, ev, hx, r2, e2, h5⟩ => ?_)
  · cases x with
    | d _ => exact False.elim h5
    | c _ => exact False.elim h5
    | s _ => exact False.elim h5
    | o x => 
      cases x with
      | er _ => exact False.elim h5
      | fn _ => exact False.elim h5
      | th _ => exact False.elim h5
      | fns tbl =>
        cases y with
        | c _ => exact False.elim h5
        | s _ => exact False.elim h5
        | o _ => exact False.elim h5
        | d y =>
          cases y with
          | str z =>
            obtain ⟨p, rfl, g1⟩ := k1.ext x2
            have eu := (keyD_ok k2 (show keyD (.str z) = some (.inr z) from rfl)).1
            subst eu
            cases q1 : tbl.lookup z with
            | none => simp only [q1] at h5; exact False.elim h5
            | some x =>
              cases q2 : sems.lookup x with
              | none => simp only [q1, Option.bind_some, q2] at h5; exact False.elim h5
              | some sem =>
                simp only [q1, Option.bind_some, q2] at h5
                refine ⟨p, .ref (He.ga X.K x), rfl, ?_, x, sem, s2, μ2, F2, rfl, q2, r2, (h1.ext x1).ext x2, h5⟩
                rw [← fns_look (K := X.K) q1]
                exact DGet.k (k := .inr z) (r2.sub _ _ g1)
          | _ => exact False.elim h5
  · obtain ⟨G, hm0⟩ := hS x sem hx
    subst ev
    obtain rfl : u = .ref (He.ga X.K x) := rv
    obtain ⟨f, fd, ps, hm, hkp, hb, G⟩ := G
    obtain rfl : f = He.ga X.K x := by rw [hm0] at hm; exact (Value.ref.inj (Option.some.inj hm)).symm
    refine PySem.W.callWith_K (h₀ := X.base) I1.ok.mod.kin hkp (thn (ha.run pos pins s1 σ H1 (fun vs H3 => spF ⟨X.K, X.w⟩ X.mg sem vs H3 Q fun cls d H => W cls d σ H) I1 ⟨ρ, s2, μ2, F2, e2, r2, Post.bindA0 h5 fun xs s3 vs μ3 F3 H3 x3 r3 k3 h6 => ?_⟩) fun us s3 ⟨vs, H3, I3, r, q⟩ => ⟨I3.kIn, ?_⟩) he hpl
    · exact ⟨xs, s3, μ3, F3, k3, r3, call_post r2 x3 h6⟩
    · have hl : us.length = ps.length := by rw [← r.length]; exact G.len _ _ _ _ q
      refine wpAny_call (codeAny_mono (G.run X.A X.stack s3 H3 ⟨us, []⟩ us vs Q (fun cls d H => W cls d σ H) (B.rm.mono hj) I3.env0 (by have hb' := hb s3 us I3.kIn (by simpa using hl); rw [List.append_nil] at hb'; exact hb') r q) fun r' s' hq => ?_)
      cases r' with
      | error e => exact B.ps σ pins H3 s3 e s' I3 hq
      | ok fl =>
        cases fl with
        | ret u => exact I3.after hq
        | next => exact False.elim hq
        | brk => exact False.elim hq
        | cont => exact False.elim hq
end
end Cp
/-! Cz: names written from a list's items. -/
namespace Cp
open PySem PySem.Spec PyProof.Rows L2
section
variable {P : Program} {w : World} {A : Around} {E : Value → Shared → Prop}
theorem drawL {j l : Addr} {us : Array Value} (ne : l ≠ j) (n : Nat) : ∀ (k : Nat) (s : Shared) (R : List Value → Shared → Prop), k + n ≤ us.size → s.heap.IsList l us → s.heap.IsListIter j l k →
    (∀ g, Heap.SameBut j s.heap g → g.IsListIter j l (k + n) → R ((us.toList.drop k).take n) { s with heap := g }) → wpAny (model P w) A (draw (.ref j) n) R E s := by
  induction n with
  | zero => exact fun k s R _ _ hj hR => wpAny_pure (by have := hR s.heap (Heap.SameBut.refl ..) hj; simpa using this)
  | succ n ih =>
    intro k s R hk hl hj hR
    have lt : k < us.size := by omega
    have e : us.toList.drop k = us[k] :: us.toList.drop (k + 1) := by simp [List.drop_eq_getElem_cons, lt]
    refine wpAny_bind (wpAny_pyNext_list_item hj hl (x := us[k]) (by simp [lt]) fun g hj1 same => ?_)
    refine wpAny_bind (wpAny_holding (ih (k + 1) _ _ (by omega) (hl.extBut same.extBut ne) hj1 fun g2 same2 hj2 => wpAny_pure ?_))
    have z := hR g2 (same.trans same2) (by rw [← Nat.add_assoc, Nat.add_right_comm]; exact hj2)
    rw [e, List.take_succ_cons] at z
    exact z
theorem itemsL {l : Addr} {us : Array Value} {s : Shared} {R : List Value → Shared → Prop} (hh : A.handled = none) (hl : s.heap.IsList l us) (hR : ∀ g, Heap.ExtBut s.heap.objs.size s.heap g → R us.toList { s with heap := g }) :
    wpAny (model P w) A (unpackItems (.ref l) us.size none) R E s := by
  have ne : l ≠ s.heap.objs.size := by
    obtain ⟨o, ho, _⟩ := hl
    exact Nat.ne_of_lt (Heap.lt_size ho)
  have whole : List.take us.size (List.drop 0 us.toList) = us.toList := by
    rw [List.drop_zero]
    exact List.take_of_length_le (by simp)
  unfold unpackItems notIterableAtAll
  refine wpAny_bind (wpAny_bind (wpAny_specialOf hl.typeIs slot_list_iter.lookup (wpAny_pure ?_)))
  simp only [Bool.false_eq_true, if_false]
  refine wpAny_bind (wpAny_holding (wpAny_pyIter_list hl ?_))
  refine wpAny_bind (wpAny_holding (drawL ne us.size 0 _ _ (by omega) (hl.push _) ⟨_, Heap.get?_push_size _ rfl, rfl, rfl⟩ fun g same hj => ?_))
  rw [whole, if_neg (by simp)]
  refine wpAny_bind (wpAny_holding (wpAny_pyNext_list_end hh hj ((hl.push _).extBut same.extBut ne) (by simp) fun g2 ext => ?_))
  simp only [Option.isSome_none, Bool.false_eq_true, if_false]
  exact wpAny_pure (hR g2 fun b o hb eb => ext b o hb (same.extBut b o hb (Heap.get?_push_of_some _ eb)))
theorem assignL {env : Env} {elts : List Expr} {k} {pos : Pos} {l : Addr} {us : Array Value} {s : Shared} {R : Unit → Shared → Prop} (hh : A.handled = none) (hl : s.heap.IsList l us) (hn : (assignEach elts env).length = us.size) (hst : (assignEach elts env).findIdx? (·.1) = none)
    (h : ∀ g, Heap.ExtBut s.heap.objs.size s.heap g → wpAny (model P w) A (assignInOrder ((assignEach elts env).map (·.2)) us.toList) R E { s with heap := g }) : wpAny (model P w) A (assign (.Tuple elts k pos) env (.ref l)) R E s := by
  rw [PyProof.Rows.assign_Tuple]
  refine wpAny_bind (wpAny_standAt ?_)
  unfold unpack
  rw [hn, hst]
  exact wpAny_bind (wpAny_holding (itemsL hh hl h))
end
section
variable {X : Cx} {C : Cn} {es : List Expr} {pos : Pos}
def gLst (K : PySem.W.Frag) (n : Nat) (t : TGs) : TG := fun v σ H Q => ∃ a xs, v = .ref a ∧ SqL K H a xs ∧ xs.length = n ∧ t xs σ H Q
theorem pg_lst {k : Nat} {t : TGs} {n : Nat} (hc : X.calm = true) (h : PGs X es t) (hn : (assignEach es X.env).length = n := by rfl) (hst : (assignEach es X.env).findIdx? (·.1) = none := by rfl) : PG X (.Tuple es k pos) (gLst X.K n t) :=
  ⟨fun pins s σ H v u Q I r ⟨a, xs, e1, hq, hl, hw⟩ => by
    subst e1
    cases r
    obtain ⟨us, rv, ⟨o, m, g1, g2, _, g3⟩, _⟩ := I.list hq
    refine assignL (I.ok.hd hc) ⟨o, g1, g2, m, g3⟩ (by simp [hn, ← hl, rv.length]) hst fun g ext => ?_
    exact h.run pins _ σ H xs _ Q (I.kept (t' := s.toks) fun b o e => ext b o (Nat.ne_of_lt (Heap.lt_size e)) e) (by simpa using rv) hw⟩
/-- (a, b, ..) = a list of that length -/
def gTl (n : Nat) (r : Gms) : Gm := fun x ρ st => match x with
  | .d (.list ds) => if ds.length = n then r ds ρ st else .no
  | _ => .no
theorem t_lst {k : Nat} {ws : List Nat} {r : Gms} {n : Nat} (hc : X.calm = true) (h : PGs X es (tGs C ws r)) (hn : (assignEach es X.env).length = n := by rfl) (hst : (assignEach es X.env).findIdx? (·.1) = none := by rfl) : PG X (.Tuple es k pos) (tG C ws (gTl n r)) :=
  (pg_lst hc h hn hst).imp fun v σ H Q ⟨ρ, st, μ, F, x, h1, h2, h3, h4⟩ => by
    cases x with
    | c i => exact False.elim h4
    | s i => exact False.elim h4
    | o i => exact False.elim h4
    | d x =>
      cases x with
      | list ds =>
        cases (show Dq C.K F v (.list ds) from h3) with
        | lst q1 q2 =>
          simp only [gTl] at h4
          split at h4
          · rename_i hl
            exact ⟨_, _, rfl, SqL.of (h2.sub _ _ q1), by rw [q2.length]; exact hl, ρ, st, μ, F, ds, h1, h2, q2, h4⟩
          · exact False.elim h4
      | _ => exact False.elim h4
@[simp] theorem W_gTl {E : Er → Sto → Prop} {ρ : En} {st : Sto} {PR : En → Sto → Prop} (n : Nat) (r : Gms) (ds : List PyData) : WVe E (gTl n r (.d (.list ds)) ρ st) PR = (ds.length = n ∧ WVe E (r ds ρ st) PR) := by
  unfold gTl
  by_cases h : ds.length = n <;> simp [h]
end
end Cp
/-! Cg: a tuple turned round, t[::-1]. -/
namespace Cp
open PySem PySem.Spec PyProof.Rows L2
section
variable {prog : Program} {w : World} {A : Around} {E : Value → Shared → Prop} {s : Shared}
theorem adjR (n : Nat) : Builtin.Slice.sliceAdjust none none (-1) (n : Int) = ((n : Int) - 1, -1) := by
  unfold Builtin.Slice.sliceAdjust
  rfl
theorem plcR (n : Nat) : Builtin.Slice.slicePlaces ((n : Int) - 1) (-1) (-1) = n := by
  unfold Builtin.Slice.slicePlaces
  have h1 : ¬ ((-1 : Int) > 0) := by omega
  simp only [h1, if_false, Int.neg_neg, Int.ediv_one]
  split <;> omega
theorem pckR (xs : Array Value) : ((List.range xs.size).filterMap fun (m : Nat) => xs[(((xs.size : Nat) : Int) - 1 + (m : Int) * (-1)).toNat]?).toArray = xs.toList.reverse.toArray := by
  have e : (fun (m : Nat) => xs[(((xs.size : Nat) : Int) - 1 + (m : Int) * (-1)).toNat]?) = (xs[·]?) ∘ fun k => xs.size - 1 - k := by
    funext m
    have : (((xs.size : Nat) : Int) - 1 + (m : Int) * (-1)).toNat = xs.size - 1 - m := by omega
    show xs[(((xs.size : Nat) : Int) - 1 + (m : Int) * (-1)).toNat]? = xs[xs.size - 1 - m]?
    rw [this]
  rw [e, ← List.filterMap_map, PySem.W.krv_range, List.filterMap_reverse, PySem.W.krv_all]
theorem slpR {sl : Addr} {vl vu vs : Value} {n : Nat} {R : Int × Int × Nat → Shared → Prop} (hs : s.heap.IsSliceOf sl vl vu vs) (pl : IsPart vl none) (pu : IsPart vu none) (ps : IsPart vs (some (-1))) (h : R ((n : Int) - 1, -1, n) s) :
    wpAny (model prog w) A (Builtin.Slice.sliceApplied (.ref sl) (pure (n : Int))) R E s := by
  obtain ⟨os, hos, hcs, hds⟩ := id hs
  unfold Builtin.Slice.sliceApplied Builtin.Slice.sliceFields
  refine wpAny_bind (wpAny_bind (wpAny_field hos hds (x := vl) rfl (wpAny_bind (wpAny_field hos hds (x := vu) rfl (wpAny_bind (wpAny_field hos hds (x := vs) rfl (wpAny_pure ?_)))))))
  refine wpAny_bind (HT.slicePart_ ps ?_)
  show wpAny _ _ (if ((-1 : Int) == 0) = true then _ else _) _ _ s
  rw [if_neg (by decide)]
  refine wpAny_bind (HT.slicePart_ pl (wpAny_bind (HT.slicePart_ pu (wpAny_bind (wpAny_pure ?_)))))
  show wpAny _ _ (match Builtin.Slice.sliceAdjust none none (-1) (n : Int) with | (lo, hi) => pure (lo, (-1 : Int), Builtin.Slice.slicePlaces lo hi (-1))) _ _ s
  rw [adjR]
  show wpAny _ _ (pure ((n : Int) - 1, (-1 : Int), Builtin.Slice.slicePlaces ((n : Int) - 1) (-1) (-1))) _ _ s
  rw [plcR]
  exact wpAny_pure h
theorem getR {t sl : Addr} {us : Array Value} {vl vu vs : Value} {R : Value → Shared → Prop} (ht : IsTup s.heap t us) (hs : s.heap.IsSliceOf sl vl vu vs) (pl : IsPart vl none) (pu : IsPart vu none) (ps : IsPart vs (some (-1)))
    (h : R (.ref s.heap.objs.size) { s with heap := s.heap.push { cls := .type "tuple", data := .seq us.toList.reverse.toArray } }) (hz : us.size ≤ sizeLine) : wpAny (model prog w) A (getItem (.ref t) (.ref sl)) R E s := by
  have ok : sizeOk (.seq us.toList.reverse.toArray) := by
    show us.toList.reverse.toArray.size ≤ sizeLine
    rw [List.size_toArray, List.length_reverse, Array.length_toList]
    exact hz
  obtain ⟨os, hos, hcs, hds⟩ := id hs
  have hT : s.TypeIs (.ref sl) "slice" := ⟨os, hos, hcs⟩
  unfold getItem
  try with_reducible refine wpAny_holding ?_
  first | refine wpAny_bind (wpAny_pure ?_) | skip
  refine wpAny_bind (wpAny_sequenceKey ht.typeIs (by decide) ?_)
  refine wpAny_bind (wpAny_callSpecial?_slot (name := Str.ofString "__getitem__") ht.typeIs slot_tuple_getitem (wpAny_call_entry slot_tuple_getitem ht.typeIs entry_tuple_getitem ?_ (args_tuple_getitem _ _)))
  show wpAny _ _ (Builtin.Tuple.tupleItemsOf (.ref t) >>= _) _ _ s
  refine wpAny_bind (tupleItemsOf_ ht (wpAny_bind (wpAny_typeOf hT ?_)))
  rw [if_pos (by decide)]
  refine wpAny_bind (slpR hs pl pu ps ?_)
  have no : ¬ (((((us.size : Nat) : Int) - 1) == 0 && (-1 : Int) == 1 && us.size == us.size) = true) := by
    intro q
    rw [Bool.and_eq_true, Bool.and_eq_true] at q
    exact absurd q.1.2 (by decide)
  show wpAny _ _ (if ((((us.size : Nat) : Int) - 1) == 0 && (-1 : Int) == 1 && us.size == us.size) = true then _ else _) _ _ s
  rw [if_neg no, pckR]
  first
    | exact wpAny_bind (m := Builtin.Tuple.tupleExact _) (wpAny_newObj_type (wpAny_pure ⟨_, rfl, wpAny_pure h⟩) ok)
    | exact wpAny_bind (m := Builtin.Tuple.tupleExact _) (wpAny_newObj_type (wpAny_bind (wpAny_pure (wpAny_pure ⟨_, rfl, wpAny_pure h⟩))) ok)
    | exact wpAny_bind (wpAny_bind (m := Builtin.Tuple.tupleExact _) (wpAny_newObj_type (wpAny_pure (wpAny_pure ⟨_, rfl, wpAny_pure h⟩)) ok))
    | exact wpAny_bind (wpAny_bind (m := Builtin.Tuple.tupleExact _) (wpAny_newObj_type (wpAny_pure ⟨_, rfl, wpAny_pure h⟩) ok))
end
section
variable {X : Cx} {C : Cn} {a : Expr} {ma : Ev} {p1 p2 p3 pos : Pos}
def tTurn (K : PySem.W.Frag) (te : TE) : TE := fun σ H Q => te σ H fun x H1 => ∃ a xs, x = .ref a ∧ SqT K H1 a xs ∧ ∀ p, H1 p = none → Q (.ref p) (upd H1 p (.tup xs.reverse))
theorem pe_turn {e : Expr} {te : TE} {k : Nat} (he : PE X e te) : PE X (.Subscript e (.Slice none none (some (.UnaryOp .USub (.Constant (.int 1) k p1) p2)) p3) pos) (tTurn X.K te) := by
  refine ⟨fun pins s σ H Q I h => ?_⟩
  refine Subscript_ (thn (he.run pins s σ H _ I h) fun v s1 ⟨x, H1, I1, r1, a, xs, ex, hx, q⟩ => ?_)
  subst ex
  cases r1
  have hst : PO X (some (.UnaryOp .USub (.Constant (.int 1) k p1) p2)) (tPart (tUn (rU fun i => .int (-i)) (tC (.int 1)))) := po_some (pe_un un_neg pe_int)
  refine wpAny_Slice (thn (po_none.run pins s1 σ H1 (fun o H2 => o = none ∧ H2 = H1) I1 ⟨rfl, rfl⟩) fun vl s2 ⟨l, H2, I2, pl, el, e2⟩ => ?_)
  subst el e2
  refine thn (po_none.run pins s2 σ H2 (fun o H3 => o = none ∧ H3 = H2) I2 ⟨rfl, rfl⟩) fun vu s3 ⟨u, H3, I3, pu, eu, e3⟩ => ?_
  subst eu e3
  refine thn (hst.run pins s3 σ H3 (fun o H4 => o = some (-1) ∧ H4 = H3) I3 ⟨1, rfl, -1, rfl, rfl, rfl⟩) fun vs s4 ⟨o, H4, I4, ps, eo, e4⟩ => ?_
  subst eo e4
  have I5 : L2.Inv X pins σ H4 { s4 with heap := s4.heap.push { cls := .type "slice", data := .fields #[vl, vu, vs] } } := I4.kept (t' := s4.toks) fun b ob q => Heap.get?_push_of_some _ q
  obtain ⟨us, r, ht, hz⟩ := I5.tuple hx
  have hlen := r.length
  show wpAny (model X.prog X.w) X.A (subscriptTail e (.Slice none none (some (.UnaryOp .USub (.Constant (.int 1) k p1) p2)) p3) (.ref a) (.ref s4.heap.objs.size)) (EP X pins σ Q) X.xe { s4 with heap := s4.heap.push { cls := .type "slice", data := .fields #[vl, vu, vs] } }
  refine tail_any (ops := [.ref a, .ref s4.heap.objs.size]) ht.typeIs slot_tuple_getitem.lookup ?_ (by with_unfolding_all rfl)
  refine getR ht (Heap.IsSliceOf.new _ vl vu vs) pl pu ps ?_ (by rw [List.size_toArray]; omega)
  refine ⟨.ref _, _, I5.laid (t' := s4.toks) (o := .tup xs.reverse) (fun b ob q => Heap.get?_push_of_some _ q) (Nat.le_refl _) ?_, rfl, q _ (I5.hok.fresh (Nat.le_refl _))⟩
  exact ⟨by rw [List.length_reverse]; exact hz, _, r.reverse, IsTup.new _ _⟩
/-- what is never reached -/
def mNo : Ev := fun _ _ => .no
theorem s_no {e : Expr} : PE X e (tM C mNo) := ⟨fun pins s σ H Q I ⟨ρ, st, μ, F, h1, h2, h3⟩ => False.elim h3⟩
def mTurnT (ma : Ev) : Ev := fun ρ st => (mV ma ρ st).bind fun x s => match x with
  | .d (.tuple ds) => .ok (.d (.tuple ds.reverse)) s
  | _ => .no
def mTurnL (ma : Ev) : Ev := fun ρ st => (mV ma ρ st).bind fun x s => match x with
  | .d (.list ds) => .ok (.n (.l ds.reverse)) s
  | _ => .no
def mTurn (ma : Ev) : Ev := fun ρ st => (mV ma ρ st).bind fun x s => match x with
  | .d (.tuple ds) => .ok (.d (.tuple ds.reverse)) s
  | .d (.list ds) => .ok (.n (.l ds.reverse)) s
  | _ => .no
theorem s_turnL {k : Nat} (ha : PE X a (tM C ma)) (hK : C.K.K = X.K) : PE X (.Subscript a (.Slice none none (some (.UnaryOp .USub (.Constant (.int 1) k p1) p2)) p3) pos) (tM C (mTurnL ma)) :=
  (pe_revL (pv_frz ha)).imp fun σ H Q ⟨ρ, st, μ, F, h1, h2, h3⟩ => ⟨ρ, st, μ, F, h1, h2, Post.bindV gE_lat h3 fun x s v μ1 F1 H1 x1 r1 k1 h4 => by
    cases x with
    | c _ => exact False.elim h4
    | s _ => exact False.elim h4
    | o _ => exact False.elim h4
    | d x =>
      cases x with
      | list ds =>
        cases (show Dq C.K F1 v (.list ds) from k1) with
        | lst q1 q2 => exact ⟨_, _, rfl, SqL.of (r1.sub _ _ q1), fun p hp => fin_n r1 h4 hp ⟨_, rfl, q2.rev⟩⟩
      | _ => exact False.elim h4⟩
theorem s_turnT {k : Nat} (ha : PE X a (tM C ma)) : PE X (.Subscript a (.Slice none none (some (.UnaryOp .USub (.Constant (.int 1) k p1) p2)) p3) pos) (tM C (mTurnT ma)) :=
  (pe_turn (pv_frz ha)).imp fun σ H Q ⟨ρ, st, μ, F, h1, h2, h3⟩ => ⟨ρ, st, μ, F, h1, h2, Post.bindV gE_lat h3 fun x s v μ1 F1 H1 x1 r1 k1 h4 => by
    cases x with
    | c _ => exact False.elim h4
    | s _ => exact False.elim h4
    | o _ => exact False.elim h4
    | d x =>
      cases x with
      | tuple ds =>
        cases (show Dq C.K F1 v (.tuple ds) from k1) with
        | tup q1 q2 => exact ⟨_, _, rfl, SqT.of (r1.sub _ _ q1), fun p hp => fin_t r1 h4 hp q2.rev⟩
      | _ => exact False.elim h4⟩
theorem turn_or (ρ : En) (st : Sto) : mTurnT ma ρ st = mTurn ma ρ st ∨ mTurnL ma ρ st = mTurn ma ρ st := by
  unfold mTurnT mTurnL mTurn
  cases mV ma ρ st with
  | ok x s =>
    cases x with
    | d x => cases x <;> first | exact .inl rfl | exact .inr rfl
    | _ => exact .inl rfl
  | er e s => exact .inl rfl
  | no => exact .inl rfl
theorem s_turn {k : Nat} (hK : C.K.K = X.K) (ha : PE X a (tM C ma)) : PE X (.Subscript a (.Slice none none (some (.UnaryOp .USub (.Constant (.int 1) k p1) p2)) p3) pos) (tM C (mTurn ma)) :=
  ⟨fun pins s σ H Q I ⟨ρ, st, μ, F, h1, h2, h3⟩ => by
    rcases turn_or (ma := ma) ρ st with e | e
    · exact (s_turnT ha).run pins s σ H Q I ⟨ρ, st, μ, F, h1, h2, by dsimp only; rw [e]; exact h3⟩
    · exact (s_turnL ha hK).run pins s σ H Q I ⟨ρ, st, μ, F, h1, h2, by dsimp only; rw [e]; exact h3⟩⟩
end
section
variable {E : Er → Sto → Prop} {ρ : En} {st : Sto} {PE : Rv → Sto → Prop} {ma : Ev}
@[simp] theorem W_mNo : WVe E (mNo ρ st) PE = False := rfl
@[simp] theorem W_mTurn : WVe E (mTurn ma ρ st) PE = WVe E (ma ρ st) fun r s => match frz r with
    | .d (.tuple ds) => PE (.d (.tuple ds.reverse)) s
    | .d (.list ds) => PE (.n (.l ds.reverse)) s
    | _ => False := by
  unfold mTurn; rw [WV_bind, W_mV]
  congr 1; funext r s
  cases frz r with
  | d x => cases x <;> rfl
  | c _ => rfl
  | s _ => rfl
  | o _ => rfl
end
end Cp
/-! Cn: tuples and tables of the module, name += e. -/
namespace Cp
open PySem L2
/-! ### a tuple of texts of the module, on the right of in -/
def isS (v : Value) (z : Str) : Bool := match v with
  | .str y _ => decide (y = z)
  | _ => false
def strsV : List Value → List Str → Bool
  | [], [] => true
  | v :: r, z :: zs => isS v z && strsV r zs
  | _, _ => false
def tupB (x : Str) (zs : List Str) : Fb := fun K => (He.Fa.glo x).ok K && match K.lookup (He.ga K x) with
  | some ⟨.type c, _, .seq its _, _⟩ => decide (c = "tuple") && (decide (its.size ≤ 1000) && strsV its.toList zs)
  | _ => false
theorem isS_ok {v : Value} {z : Str} (h : isS v z = true) : RelV (.str z) v := by
  unfold isS at h
  split at h
  · rename_i y t
    have e : y = z := of_decide_eq_true h
    subst e
    exact ⟨t, rfl⟩
  · cases h
theorem strsV_ok : ∀ {vs : List Value} {zs : List Str}, strsV vs zs = true → Vals (zs.map V.str) vs
  | [], [], _ => .nil
  | v :: r, z :: zs, h => by
    unfold strsV at h
    rw [Bool.and_eq_true] at h
    exact .cons (isS_ok h.1) (strsV_ok h.2)
  | [], _ :: _, h => by cases h
  | _ :: _, [], h => by cases h
/-- where the tuple stands -/
structure TupC (K : PySem.W.Frag) (mg : Str → Option Value) (x : Str) (zs : List Str) : Prop where
  g : mg x = some (.ref (He.ga K x))
  t : ∀ H, SqT K H (He.ga K x) (zs.map V.str)
theorem tupB_ok {x : Str} {zs : List Str} {K : PySem.W.Frag} {h : Heap} {mg : Str → Option Value} (X : K.In h) (G : h.Ns mainGlobals mg) (c : tupB x zs K = true) : TupC K mg x zs := by
  obtain ⟨c1, c2⟩ := He.ba c
  refine ⟨He.glo_ok X G c1, fun H => ?_⟩
  cases q : K.lookup (He.ga K x) with
  | none => rw [q] at c2; cases c2
  | some o =>
    rw [q] at c2
    obtain ⟨oc, od, dt, osl⟩ := o
    cases oc with
    | type c =>
      cases dt with
      | seq its n =>
        obtain ⟨c3, c4⟩ := He.ba c2
        obtain ⟨c5, c6⟩ := He.ba c4
        have e : c = "tuple" := of_decide_eq_true c3
        have hz : its.size ≤ 1000 := of_decide_eq_true c5
        subst e
        exact .inr ⟨_, its, n, q, rfl, rfl, Nat.le_trans hz (by decide), strsV_ok c6⟩
      | _ => cases c2
    | _ => cases c2
section
variable {X : Cx} {C : Cn} {Q : VK} {μ : List Addr} {F H : Hp} {st : Sto} {e : Expr} {ma mb : Ev} {pos p : Pos} {x : Str} {zs : List Str}
theorem cmpC_core {β : Type} {G : β → Sto → List Addr → Hp → Hp → Prop} (gl : Lat G) {r : R2} {g : PyData → PyData → Option Bool} {y : V} {db : PyData} (ok : ∀ (a : PyData) (k : Bool) (v : V) (μ : List Addr) (F H : Hp) (st : Sto) (Q : VK), SR C.K μ F H st → Vw C.K F H v a → g a db = some k → Q (.bl k) H → r v y H Q)
    {σ : St} {ρ : En} {R : VK} {kk : Bool → Sto → Res β} (h3 : Post (C.at σ) G μ F H ((mCmp g ma (mK db) ρ st).bind kk)) (fin : ∀ k s μ1 F1 H1, Ext μ F H μ1 F1 H1 → SR C.K μ1 F1 H1 s → Post (C.at σ) G μ1 F1 H1 (kk k s) → R (.bl k) H1) :
    PostV (C.at σ) (fun x H1 => r x y H1 R) μ F H (mV ma ρ st) := by
  have h3' : Post (C.at σ) G μ F H ((mV ma ρ st).bind fun x s1 => (okB (cmp2 g s1 x (.d db)) s1).bind kk) := by
    revert h3
    unfold mCmp
    cases mV ma ρ st <;> exact id
  refine Post.bindV gl h3' fun x s v μ1 F1 H1 x1 r1 k1 h5 => ?_
  cases q0 : cmp2 g s x (.d db) with
  | none => rw [q0] at h5; exact False.elim h5
  | some k =>
    rw [q0] at h5
    unfold cmp2 at q0
    cases q1 : view s x with
    | none => rw [q1] at q0; cases q0
    | some da =>
      rw [q1] at q0
      exact ok da k v μ1 F1 H1 s R r1 (view_ok r1 k1 q1) q0 (fin k s μ1 F1 H1 x1 r1 h5)
theorem flat_strs {v : V} {d : PyData} {K : Kw} (h : Dq K F v d) (f : flatD d = true) : ∀ zs : List Str, (zs.map V.str).all flatV = true ∧ inV v (zs.map V.str) = (zs.map PyData.str).any (fun y => eqF y d) := fun zs => by
  have : DqAll K F (zs.map V.str) (zs.map PyData.str) := by
    induction zs with
    | nil => exact .nil
    | cons z zs ih => exact .cons (.str z) ih
  exact flat_all h f this (by rw [List.all_map]; exact List.all_eq_true.mpr fun _ _ => rfl)
theorem gInC_ok {neg : Bool} (hK : C.K.K = X.K) (T : TupC X.K X.mg x zs) (a : PyData) (k : Bool) (v : V) (μ : List Addr) (F H : Hp) (st : Sto) (Q : VK) (s : SR C.K μ F H st) (va : Vw C.K F H v a) (e : gIn neg a (.tuple (zs.map PyData.str)) = some k) (q : Q (.bl k) H) :
    rIn X.K neg v (.ref (He.ga X.K x)) H Q := by
  unfold gIn at e
  simp only [itemsD] at e
  split at e
  · rename_i hh
    rw [Bool.and_eq_true] at hh
    cases e
    obtain ⟨h1, h2⟩ := flat_strs (va.flat hh.1) hh.1 zs
    exact ⟨_, _, rfl, .inr (T.t H), (flat_dq (va.flat hh.1) hh.1).1, h1, by rw [h2]; exact q⟩
  · cases e
theorem v_inC {neg : Bool} {op : CmpOp} (ho : OpR X (compareOp op) (rIn X.K neg)) (hK : C.K.K = X.K) (T : TupC X.K X.mg x zs) (hg : Gl X x) (ha : PE X e (tM C ma)) (hm : behindInMarks op (.Name x p) = false) (hd : (x == ("__debug__" : Str)) = false := by decide) :
    PE X (.Compare e [op] [.Name x p] pos) (tM C (bV (mCmp (gIn neg) ma (mK (.tuple (zs.map PyData.str)))))) :=
  (pe_cmpR ho (pv_frz ha) (pe_glob (v := .ref (He.ga X.K x)) hg T.g rfl hd) hm).imp fun σ H Q ⟨ρ, st, μ, F, h1, h2, h3⟩ => ⟨ρ, st, μ, F, h1, h2, cmpC_core gE_lat (gInC_ok hK T) h3 fun k s μ1 F1 H1 x1 r1 h => fin_d r1 h (.bl k)⟩
theorem t_inC {neg : Bool} {op : CmpOp} (ho : OpR X (compareOp op) (rIn X.K neg)) (hK : C.K.K = X.K) (T : TupC X.K X.mg x zs) (hg : Gl X x) (ha : PE X e (tM C ma)) (hm : behindInMarks op (.Name x p) = false) (hd : (x == ("__debug__" : Str)) = false := by decide) :
    PT X (.Compare e [op] [.Name x p] pos) (tT C (mCmp (gIn neg) ma (mK (.tuple (zs.map PyData.str))))) := by
  have h := pt_cmpR (pos := pos) ho (pv_frz ha) (pe_glob (v := .ref (He.ga X.K x)) hg T.g rfl hd) hm
  refine ⟨fun pins s σ H Q I ⟨ρ, st, μ, F, h1, h2, h3⟩ => h.run pins s σ H Q I ⟨ρ, st, μ, F, h1, h2, ?_⟩⟩
  have h3' : PostB (C.at σ) Q μ F H ((mCmp (gIn neg) ma (mK (.tuple (zs.map PyData.str))) ρ st).bind fun k s => .ok k s) := by
    revert h3
    cases mCmp (gIn neg) ma (mK (.tuple (zs.map PyData.str))) ρ st <;> exact id
  exact cmpC_core (R := fun v H1 => ∃ k, v = .bl k ∧ Q k H1) gB_lat (gInC_ok hK T) h3' fun k s μ1 F1 H1 x1 r1 h => ⟨k, rfl, h μ1 F1 H1 Ext.refl r1⟩
/-! ### name += e, of ints -/
def sAugI (i : Nat) (ma : Ev) : Sv := fun ρ st => match ρ[i]? with
  | some (some (.d (.int a))) => (mV ma ρ st).toS fun y s => match y with
    | .d (.int b) => .nx (ρ.set i (some (.d (.int (a + b))))) s
    | _ => .no
  | _ => .no
theorem x_augI {i : Nat} {y : Str} {pos' : Pos} (hN : X.N.Nodup) (hi : X.N[i]? = some y) (hx : Loc X.env.scope y) (ha : PE X e (tM C ma)) (hf : X.fn y = true ∨ X.env.scope.names.lookup y = some .local) :
    PS X (.AugAssign (.Name y pos') .Add e pos) (tS C (sAugI i ma)) := (ps_aug hN hi hx (pv_frz ha) ip_add hf).imp fun D σ H ⟨ρ, st, μ, F, h1, h2, h3⟩ => by
  have h3 : PostS (C.at σ) D μ F H (sAugI i ma ρ st) := h3
  unfold sAugI at h3
  cases q : ρ[i]? with
  | none => rw [q] at h3; exact False.elim h3
  | some o =>
    cases o with
    | none => rw [q] at h3; exact False.elim h3
    | some x =>
      cases x with
      | d d =>
        cases d with
        | int a =>
          rw [q] at h3
          obtain ⟨v, k1, k2⟩ := h1.2 i _ q
          refine ⟨v, k1, ρ, st, μ, F, h1, h2, PostS.bindV h3 fun y s u μ1 F1 H1 x1 r1 k3 h4 => ?_⟩
          cases y with
          | d d =>
            cases d with
            | int b =>
              have e1 : v = .int a := by cases (show Dq C.K F v (.int a) from k2); rfl
              have e2 : u = .int b := by cases (show Dq C.K F1 u (.int b) from k3); rfl
              subst e1 e2
              exact ⟨a, b, rfl, rfl, h4 _ _ _ _ Ext.refl r1 (eok_set (h1.ext x1) (show Vok C.K F1 μ1 (.d (.int (a + b))) (.int (a + b)) from Dq.int _))⟩
            | _ => exact False.elim h4
          | _ => exact False.elim h4
        | _ => rw [q] at h3; exact False.elim h3
      | _ => rw [q] at h3; exact False.elim h3
variable {E : Er → Sto → Prop} {ρ : En} {N B K : En → Sto → Prop} {R : Rv → Sto → Prop}
@[simp] theorem W_sAugI (i : Nat) : WSe E (sAugI i ma ρ st) N B K R = (match ρ[i]? with
    | some (some (.d (.int a))) => WVe E (ma ρ st) fun y s => (match frz y with
      | .d (.int b) => N (ρ.set i (some (.d (.int (a + b))))) s
      | _ => False)
    | _ => False) := by
  unfold sAugI
  split
  · rw [WS_toS, W_mV]
    congr 1; funext y s
    split <;> simp_all
  · rename_i h
    rfl
end
/-! ### a table of the module: texts to ints; .get of it -/
def isI (v : Value) (z : Int) : Bool := match v with
  | .int y _ => decide (y = z)
  | _ => false
theorem isI_ok {v : Value} {z : Int} (h : isI v z = true) : RelV (.int z) v := by
  unfold isI at h
  split at h
  · rename_i y t
    have e : y = z := of_decide_eq_true h
    subst e
    exact ⟨t, rfl⟩
  · cases h
def entsI : List DictEntry → List (Str × Int) → Bool
  | [], [] => true
  | e :: r, z :: zs => (isS e.key z.1 && isI e.val z.2) && entsI r zs
  | _, _ => false
def tabB (x : Str) (kvs : List (Str × Int)) : Fb := fun K => (He.Fa.glo x).ok K && match K.lookup (He.ga K x) with
  | some ⟨_, _, .dict es _, _⟩ => entsI es.toList kvs
  | _ => false
/-- the table -/
structure TabC (K : PySem.W.Frag) (w : World) (mg : Str → Option Value) (x : Str) (kvs : List (Str × Int)) : Prop where
  g : mg x = some (.ref (He.ga K x))
  t : ∃ es n, KDict K w (He.ga K x) es n ∧ ∀ z, RelO ((kvs.lookup z).map V.int) (findBy Value.isStrOf es z)
theorem entsI_find : ∀ {l : List DictEntry} {kvs : List (Str × Int)}, entsI l kvs = true → ∀ z, RelO ((kvs.lookup z).map V.int) ((l.find? fun e => Value.isStrOf z e.key).map (·.val))
  | [], [], _, _ => trivial
  | e :: r, p :: zs, h, z => by
    obtain ⟨p1, p2⟩ := p
    unfold entsI at h
    simp only [Bool.and_eq_true] at h
    obtain ⟨⟨h1, h2⟩, h3⟩ := h
    obtain ⟨t, ek⟩ := isS_ok h1
    have ez : Value.isStrOf z e.key = decide (z = p1) := by
      rw [ek]
      by_cases hz : z = p1
      · subst hz; simp [Value.isStrOf]
      · simp [Value.isStrOf, hz]
        try exact fun q => hz q.symm
    rw [List.find?_cons, ez, List.lookup_cons]
    by_cases hz : z = p1
    · subst hz
      simp
      exact isI_ok h2
    · have e1 : (z == p1) = false := by simpa using hz
      rw [decide_eq_false hz, e1]
      exact entsI_find h3 z
  | [], _ :: _, h, _ => by cases h
  | _ :: _, [], h, _ => by cases h
theorem tabB_ok {x : Str} {kvs : List (Str × Int)} {K : PySem.W.Frag} {w : World} {h : Heap} {mg : Str → Option Value} (X : K.In h) (G : h.Ns mainGlobals mg) (c : tabB x kvs K = true) (D : ∃ es n, KDict K w (He.ga K x) es n) : TabC K w mg x kvs := by
  obtain ⟨c1, c2⟩ := He.ba c
  refine ⟨He.glo_ok X G c1, ?_⟩
  obtain ⟨es, n, D⟩ := D
  refine ⟨es, n, D, fun z => ?_⟩
  rw [D.at_] at c2
  have := entsI_find c2 z
  obtain ⟨l⟩ := es
  unfold findBy
  simpa using this
def mTabG (kvs : List (Str × Int)) (ma : Ev) : Ev := fun ρ st => (mV ma ρ st).bind fun y s => match y with
  | .d (.str z) => .ok (.d (match kvs.lookup z with
    | some i => .int i
    | none => .none)) s
  | _ => .no
section
variable {X : Cx} {C : Cn} {e : Expr} {ma : Ev} {apos cpos p : Pos} {x : Str} {kvs : List (Str × Int)}
theorem s_tabG (T : TabC X.K X.w X.mg x kvs) (hg : Gl X x) (he : PE X e (tM C ma)) (m : M1 X (.Name x p) "get" apos e cpos) (hd : (x == ("__debug__" : Str)) = false := by decide) :
    PE X (.Call (.Attribute (.Name x p) "get" apos) [e] [] cpos) (tM C (mTabG kvs ma)) := by
  refine ⟨fun pins s σ H Q I ⟨ρ, st, μ, F, h1, h2, h3⟩ => ?_⟩
  obtain ⟨es, n, D, hfind⟩ := T.t
  refine wpAny_Call_method m.base m.few m.line PySem.F.plainAttrs_dict PySem.F.slot_dict_get PySem.F.type_dict_get (thn ((pe_glob (pos := p) (v := .ref (He.ga X.K x)) hg T.g rfl hd).run pins s σ H (fun v H1 => v = .ref (He.ga X.K x) ∧ H1 = H) I ⟨rfl, rfl⟩) fun u s1 ⟨y, H1, I1, rx, ex, eH⟩ => ?_)
  subst ex eH
  obtain rfl : u = Value.ref (He.ga X.K x) := rx
  have mo : s1.heap.MapOf (strKind X.prog X.w) (He.ga X.K x) (fun k => findBy Value.isStrOf es k) := PySem.W.mapOf_K (prog := X.prog) I1.kIn D.at_ D.lit
  refine ⟨mo.typeIs, mo.noDict, ?_⟩
  rw [m.trees]
  refine Calls.callWith_builtin rfl (Calls.evalArgs_plain (Calls.spliced_cons (thn ((pv_frz he).run pins s1 σ H1 (fun v H2 => ∃ z, v = .str z ∧ Q ((((kvs.lookup z).map V.int)).getD .non) H2) I1 ⟨ρ, st, μ, F, h1, h2, Post.bindV gE_lat h3 fun y sy v μ1 F1 H2 x1 r1 k1 h5 => ?_⟩) fun iv s2 ⟨y, H2, I2, ry, z, ez, q⟩ => Calls.spliced_nil ?_)))
  · cases y with
    | d d =>
      cases d with
      | str z =>
        have e1 : v = .str z := by cases (show Dq C.K F1 v (.str z) from k1); rfl
        refine ⟨z, e1, ?_⟩
        have h5 : PostE (C.at σ) Q μ1 F1 H2 (.ok (.d (match kvs.lookup z with
          | some i => .int i
          | none => .none)) sy) := h5
        cases q : kvs.lookup z with
        | none => rw [q] at h5; exact fin_d r1 h5 .non
        | some i => rw [q] at h5; exact fin_d r1 h5 (.int i)
      | _ => exact False.elim h5
    | _ => exact False.elim h5
  · subst ez
    obtain ⟨t, rfl⟩ := ry
    have mo2 : s2.heap.MapOf (strKind X.prog X.w) (He.ga X.K x) (fun k => findBy Value.isStrOf es k) := PySem.W.mapOf_K (prog := X.prog) I2.kIn D.at_ D.lit
    refine call_meetsIn PySem.F.slot_dict_get mo2.typeIs PySem.F.entry_dict_get (PySem.F.args_dict_get_2 _ _) (meets_dict_get (strKind X.prog X.w) (He.ga X.K x) (PySem.strKind_is X.prog X.w z t) D.low) ⟨_, mo2, ⟨_, H2, I2.tok _, ?_, q⟩⟩
    exact RelO.getD (hfind z) rfl
variable {E : Er → Sto → Prop} {ρ : En} {st : Sto} {PE' : Rv → Sto → Prop}
@[simp] theorem W_mTabG : WVe E (mTabG kvs ma ρ st) PE' = WVe E (ma ρ st) fun r s => (match frz r with
    | .d (.str z) => PE' (.d (match kvs.lookup z with
      | some i => .int i
      | none => .none)) s
    | _ => False) := by
  unfold mTabG; rw [WV_bind, W_mV]
  congr 1; funext y s
  split <;> simp_all
end
/-! ### the head's own look, with tables -/
abbrev AlX : Type := He.AlD × List (Option (List (Option (Str × Int))))
def obsXT (fb : List Fb) (fn : List He.DefD) (ts : List He.Tab) (K : PySem.W.Frag) : AlX := (obsX fb fn K, ts.map fun t => He.dicW K (t.1 K))
def valXT (fn : List He.DefD) (ts : List He.Tab) (w : World) : AlX := (He.valD fn, ts.map fun t => some (He.keysIn w.params t.2))
def SaysXT (fb : List Fb) (fn : List He.DefD) (ts : List He.Tab) (w : World) (K : PySem.W.Frag) : Prop := obsXT fb fn ts K = valXT fn ts w
def sysB : Fb := fun K => match K.lookup sysModules with
  | some ⟨_, _, .dict _ _, _⟩ => true
  | _ => false
theorem sysB_ok {K : PySem.W.Frag} (h : sysB K = true) : SysK K := by
  unfold sysB at h
  cases q : K.lookup sysModules with
  | none => rw [q] at h; cases h
  | some o =>
    rw [q] at h
    obtain ⟨oc, od, dt, osl⟩ := o
    cases dt with
    | dict es n => exact ⟨_, es, n, q, rfl⟩
    | _ => cases h
def obsXTG (n : Nat) (fb : List Fb) (fn : List He.DefD) (ts : List He.Tab) (g : Addr → Option Obj) : AlX := obsXT fb fn ts (He.frG g (sysModules :: He.asD g n))
def hookXT (n : Nat) (fb : List Fb) (fn : List He.DefD) (ts : List He.Tab) : PySem.W.Hook where
  α := AlX
  obs := fun s => obsXTG n fb fn ts s.heap.get?
  val := fun w => valXT fn ts w
  says := fun w h => ∃ K : PySem.W.Frag, K.In h ∧ SaysXT fb fn ts w K
  of := fun _ _ e => ⟨_, He.frG_in, e⟩
  keeps := fun _ _ _ ⟨K, hK, c⟩ k => ⟨K, PySem.W.Frag.In.keeps hK k, c⟩
theorem obsXTG_eq {n : Nat} {fb : List Fb} {fn : List He.DefD} {ts : List He.Tab} {g : Addr → Option Obj} {s : Shared} (h : ∀ a, g a = s.heap.get? a) : obsXTG n fb fn ts g = (hookXT n fb fn ts).obs s := by
  have e : g = s.heap.get? := funext h
  rw [e] <;> rfl
section
variable {fb : List Fb} {fn : List He.DefD} {ts : List He.Tab} {w : World} {K : PySem.W.Frag}
theorem SaysXT.x (c : SaysXT fb fn ts w K) : SaysX fb fn K := congrArg (fun z : AlX => z.1) c
theorem SaysXT.tab (c : SaysXT fb fn ts w K) (i : Nat) {t : He.Tab} (h : ts[i]? = some t := by rfl) : ∃ es n, KDict K w (t.1 K) es n := by
  have e : ts.map (fun t => He.dicW K (t.1 K)) = ts.map fun t => some (He.keysIn w.params t.2) := congrArg (fun z : AlX => z.2) c
  have e2 : (ts.map fun t => He.dicW K (t.1 K))[i]? = (ts.map fun t => some (He.keysIn w.params t.2))[i]? := by rw [e]
  rw [List.getElem?_map, List.getElem?_map, h] at e2
  exact He.dicW_ok (Option.some.inj e2)
end
/-- a world by what it says of one row -/
def setF (w : World) (r : String) (b : Bool) : World := { w with params := { w.params with followText := fun x => if x == r then b else w.params.followText x } }
theorem setF_eq (w : World) (r : String) : setF w r (w.params.followText r) = w := by
  obtain ⟨d, p⟩ := w
  unfold setF
  have : (fun x => if x == r then p.followText r else p.followText x) = p.followText := by
    funext x
    by_cases h : x = r
    · subst h; simp
    · simp [h]
  simp only [this]
end Cp
/-! Dd: dicts, their keys ints and texts or tuples: in, d[k], d[k] = v. -/
namespace Cp
open PySem L2
def gnD (d : PyData) : Bool := match d with
  | .tuple xs => (match keysN xs with
    | some ks => decide ((NestedKey.tup ks).depth ≤ 8)
    | none => false)
  | _ => false
def gnK (kvs : List (PyData × PyData)) : Bool := kvs.all fun p => gnD p.1
def okK (kvs : List (PyData × PyData)) (k : PyData) : Bool := (flK kvs && (keyD k).isSome) || (gnK kvs && gnD k)
def keyE (a b : PyData) : Bool := decide (keyN a = keyN b)
def lookD : List (PyData × PyData) → PyData → Option PyData
  | [], _ => none
  | (j, v) :: r, k => if keyE j k then some v else lookD r k
def putD (kvs : List (PyData × PyData)) (k v : PyData) : List (PyData × PyData) :=
  if (kvs.any fun p => keyE p.1 k) = true then kvs.map (fun p => if keyE p.1 k = true then (p.1, v) else p) else kvs ++ [(k, v)]
theorem gnD_ok {d : PyData} (h : gnD d = true) : ∃ xs ks, d = .tuple xs ∧ keyN d = some (.tup ks) ∧ (NestedKey.tup ks).depth ≤ 8 := by
  cases d with
  | tuple xs =>
    unfold gnD at h
    cases q : keysN xs with
    | none => simp only [q] at h; cases h
    | some ks =>
      simp only [q] at h
      exact ⟨xs, ks, rfl, by unfold keyN; rw [q], of_decide_eq_true h⟩
  | _ => cases h
theorem keyE_kD {j k : Key} : keyE (kD j) (kD k) = decide (j = k) := by
  unfold keyE
  cases j <;> cases k <;> simp [kD, keyN]
section
variable {K : Kw} {F H : Hp}
/-- the value at a key -/
theorem lookD_flat {k : Key} : ∀ {ws : List (Key × V)} {kvs : List (PyData × PyData)}, DqKv K F ws kvs → OptOk K F (valV ws k) (lookD kvs (kD k))
  | _, _, .nil => trivial
  | (j, v) :: ws, _, .cons (d := d) h t => by
    unfold lookD valV
    rw [List.find?_cons, keyE_kD]
    cases q : decide (j = k) with
    | true => exact h
    | false => exact lookD_flat t
theorem OptOk.same_some {a : Option V} {b : Option PyData} (h : OptOk K F a b) : a.isSome = b.isSome := by
  cases a <;> cases b <;> first | rfl | exact False.elim h
theorem any_flat {k : Key} : ∀ {ws : List (Key × V)} {kvs : List (PyData × PyData)}, DqKv K F ws kvs → (kvs.any fun p => keyE p.1 (kD k)) = ws.any fun kv => decide (kv.1 = k)
  | _, _, .nil => rfl
  | (j, v) :: ws, _, .cons (d := d) h t => by rw [List.any_cons, List.any_cons, keyE_kD, any_flat t]
theorem map_flat {k : Key} {x : V} {d : PyData} (hx : Dq K F x d) : ∀ {ws : List (Key × V)} {kvs : List (PyData × PyData)}, DqKv K F ws kvs → DqKv K F (ws.map fun kv => if kv.1 = k then (kv.1, x) else kv) (kvs.map fun p => if keyE p.1 (kD k) = true then (p.1, d) else p)
  | _, _, .nil => .nil
  | (j, v) :: ws, _, .cons (d := d') h t => by
    rw [List.map_cons, List.map_cons, keyE_kD]
    by_cases q : j = k
    · rw [if_pos q, if_pos (decide_eq_true q)]; exact .cons hx (map_flat hx t)
    · rw [if_neg q, if_neg (by simpa using q)]; exact .cons h (map_flat hx t)
theorem app_flat : ∀ {ws us : List (Key × V)} {kvs lvs : List (PyData × PyData)}, DqKv K F ws kvs → DqKv K F us lvs → DqKv K F (ws ++ us) (kvs ++ lvs)
  | _, _, _, _, .nil, h => h
  | _, _, _, _, .cons h t, g => .cons h (app_flat t g)
theorem put_flat {k : Key} {x : V} {d : PyData} {ws : List (Key × V)} {kvs : List (PyData × PyData)} (h : DqKv K F ws kvs) (hx : Dq K F x d) : DqKv K F (putK ws k x) (putD kvs (kD k) d) := by
  unfold putK putD
  rw [any_flat h]
  by_cases q : (ws.any fun kv => decide (kv.1 = k)) = true
  · rw [if_pos q, if_pos q]; exact map_flat hx h
  · rw [if_neg q, if_neg q]; exact app_flat h (.cons hx .nil)
/-! ### keys that are tuples -/
abbrev Ge := NestedKey × Addr × V
def lookG (es : List Ge) (k : NestedKey) : Option V := (es.find? fun e => decide (e.1 = k)).map (·.2.2)
def putG (es : List Ge) (k : NestedKey) (b : Addr) (v : V) : List Ge :=
  if (es.any fun e => decide (e.1 = k)) = true then es.map (fun e => if e.1 = k then (e.1, e.2.1, v) else e) else es ++ [(k, b, v)]
theorem keyE_at {a b : PyData} {j k : NestedKey} (h1 : keyN a = some j) (h2 : keyN b = some k) : keyE a b = decide (j = k) := by
  unfold keyE
  rw [h1, h2]
  by_cases q : j = k
  · rw [decide_eq_true q, decide_eq_true (by rw [q])]
  · rw [decide_eq_false q, decide_eq_false (fun z => q (Option.some.inj z))]
theorem lookG_ok {k : NestedKey} {kd : PyData} (hk : keyN kd = some k) : ∀ {es : List Ge} {kvs : List (PyData × PyData)}, DqG K F es kvs → OptOk K F (lookG es k) (lookD kvs kd)
  | _, _, .nil => trivial
  | (j, b, v) :: es, _, .cons h1 h2 h3 h4 t => by
    unfold lookD lookG
    rw [List.find?_cons, keyE_at h2 hk]
    cases q : decide (j = k) with
    | true => exact h4
    | false => exact lookG_ok hk t
theorem anyG_ok {k : NestedKey} {kd : PyData} (hk : keyN kd = some k) : ∀ {es : List Ge} {kvs : List (PyData × PyData)}, DqG K F es kvs → (kvs.any fun p => keyE p.1 kd) = es.any fun e => decide (e.1 = k)
  | _, _, .nil => rfl
  | (j, b, v) :: es, _, .cons h1 h2 h3 h4 t => by rw [List.any_cons, List.any_cons, keyE_at h2 hk, anyG_ok hk t]
theorem mapG_ok {k : NestedKey} {kd : PyData} (hk : keyN kd = some k) {x : V} {d : PyData} (hx : Dq K F x d) : ∀ {es : List Ge} {kvs : List (PyData × PyData)}, DqG K F es kvs → DqG K F (es.map fun e => if e.1 = k then (e.1, e.2.1, x) else e) (kvs.map fun p => if keyE p.1 kd = true then (p.1, d) else p)
  | _, _, .nil => .nil
  | (j, b, v) :: es, _, .cons h1 h2 h3 h4 t => by
    rw [List.map_cons, List.map_cons, keyE_at h2 hk]
    by_cases q : j = k
    · rw [if_pos q, if_pos (decide_eq_true q)]; exact .cons h1 h2 h3 hx (mapG_ok hk hx t)
    · rw [if_neg q, if_neg (by simpa using q)]; exact .cons h1 h2 h3 h4 (mapG_ok hk hx t)
theorem appG_ok : ∀ {es us : List Ge} {kvs lvs : List (PyData × PyData)}, DqG K F es kvs → DqG K F us lvs → DqG K F (es ++ us) (kvs ++ lvs)
  | _, _, _, _, .nil, h => h
  | _, _, _, _, .cons h1 h2 h3 h4 t, g => .cons h1 h2 h3 h4 (appG_ok t g)
theorem putG_ok {k : NestedKey} {kd : PyData} (hk : keyN kd = some k) (hd : k.depth ≤ 8) {b : Addr} (hb : Dq K F (.ref b) kd) {x : V} {d : PyData} (hx : Dq K F x d) {es : List Ge} {kvs : List (PyData × PyData)} (h : DqG K F es kvs) : DqG K F (putG es k b x) (putD kvs kd d) := by
  unfold putG putD
  rw [anyG_ok hk h]
  by_cases q : (es.any fun e => decide (e.1 = k)) = true
  · rw [if_pos q, if_pos q]; exact mapG_ok hk hx h
  · rw [if_neg q, if_neg q]; exact appG_ok h (.cons hb hk hd hx .nil)
theorem putG_ne {es : List Ge} {k : NestedKey} {b : Addr} {v : V} : putG es k b v ≠ [] := by
  unfold putG
  split
  · rename_i q
    cases es with
    | nil => cases q
    | cons e es => simp
  · simp
theorem putG_nodup {es : List Ge} {k : NestedKey} {b : Addr} {v : V} (h : (es.map (·.1)).Nodup) : ((putG es k b v).map (·.1)).Nodup := by
  unfold putG
  split
  · have e : (es.map fun e => if e.1 = k then (e.1, e.2.1, v) else e).map (·.1) = es.map (·.1) := by
      rw [List.map_map]
      refine List.map_congr_left fun e _ => ?_
      show (if e.1 = k then (e.1, e.2.1, v) else e).1 = e.1
      split <;> rfl
    rw [e]; exact h
  · rename_i q
    rw [List.map_append, List.nodup_append]
    refine ⟨h, by simp, fun a ha c hc e => ?_⟩
    rw [List.map_cons, List.map_nil, List.mem_singleton] at hc
    subst e hc
    obtain ⟨x, hx, e⟩ := List.mem_map.mp ha
    exact q (List.any_eq_true.mpr ⟨x, hx, decide_eq_true e⟩)
theorem putG_len {es : List Ge} {k : NestedKey} {b : Addr} {v : V} : (putG es k b v).length ≤ es.length + 1 := by
  unfold putG
  split <;> simp
end
/-! ### in the heap -/
section
variable {P : Program} {w : World} {K : Kw} {F H : Hp} {h : Heap}
mutual
theorem Dq.nest (ok : HOk P w H h) : ∀ {v : V} {d : PyData} {u : Value} {k : NestedKey}, Dq K H v d → RelV v u → keyN d = some k → NestedIs h k u
  | _, _, _, _, .non, r, e => by cases r; cases e; exact .none
  | _, _, _, _, .bl b, _, e => by cases e
  | _, _, _, _, .int i, r, e => by obtain ⟨t, rfl⟩ := r; cases e; exact .int i t
  | _, _, _, _, .str x, r, e => by obtain ⟨t, rfl⟩ := r; cases e; exact .text x t
  | _, _, _, _, .lst _ _, _, e => by cases e
  | _, .tuple ds, _, k, .tup (a := a) (xs := xs) g q, r, e => by
    cases r
    unfold keyN at e
    cases q1 : keysN ds with
    | none => rw [q1] at e; cases e
    | some ks =>
      rw [q1] at e
      cases e
      obtain ⟨_, its, rv, o, ho, hc, n, hd⟩ := (show ObjOk P w H h a (.tup xs) from ok a _ g)
      exact .tup ho hc hd (DqAll.nest ok q rv q1)
  | _, _, _, _, .dic _ _, _, e => by cases e
  | _, _, _, _, .dig _ _ _ _, _, e => by cases e
  | _, _, _, _, .ins _ _ _, _, e => by cases e
theorem DqAll.nest (ok : HOk P w H h) : ∀ {vs : List V} {ds : List PyData} {us : List Value} {ks : List NestedKey}, DqAll K H vs ds → Vals vs us → keysN ds = some ks → NestedAll h ks us
  | _, _, _, _, .nil, r, e => by cases r; cases e; exact .nil
  | _, d :: ds, _, ks, .cons g q, r, e => by
    cases r with
    | cons r1 r2 =>
      unfold keysN at e
      cases q1 : keyN d with
      | none => rw [q1] at e; cases e
      | some k =>
        cases q2 : keysN ds with
        | none => rw [q1, q2] at e; cases e
        | some ks' =>
          rw [q1, q2] at e
          cases e
          exact .cons (Dq.nest ok g r1 q1) (DqAll.nest ok q r2 q2)
end
theorem DqG.nests (ok : HOk P w H h) : ∀ {es : List Ge} {kvs : List (PyData × PyData)} {xs : List (NestedKey × Addr × Value)}, DqG K H es kvs → Paired DgPr es xs → ∀ x ∈ xs, (nestedKind P w).is h x.1 x.2.1
  | _, _, _, .nil, r, _, hx => by cases r; cases hx
  | _, _, _, .cons h1 h2 h3 h4 t, r, x, hx => by
    cases r with
    | cons r1 r2 =>
      rcases List.mem_cons.mp hx with rfl | hx
      · obtain ⟨e1, e2, _⟩ := r1
        show NestedIs h x.1 (.ref x.2.1) ∧ x.1.depth ≤ 8
        rw [← e1, ← e2]
        exact ⟨Dq.nest ok h1 rfl h2, h3⟩
      · exact DqG.nests ok t r2 x hx
/-- a dict whose keys are tuples, or none -/
theorem dc_gen (ok : HOk P w H h) (sub : Same F H) {a : Addr} {o : HO} {kvs : List (PyData × PyData)} (hw : K.w = w) (ha : H a = some o) (hc : DcOk K F a kvs o) (g : gnK kvs = true) :
    ∃ es xs, DqG K F es kvs ∧ (es.map (·.1)).Nodup ∧ Paired DgPr es xs ∧ h.DictOfH (nestedKind P w) a xs ∧ es.length ≤ sizeLine ∧ (a == sysModules) = false ∧ Mut (H a) := by
  rcases hc with ⟨ws, rfl, h2⟩ | ⟨es, rfl, h2, h3, h4⟩
  · cases h2 with
    | nil =>
      obtain ⟨_, low, vs, kv, hd⟩ := ok a _ ha
      cases kv
      obtain ⟨o, ar, ep, e1, e2, e3, _, e4, _⟩ := hd
      have e6 : ar.toList = [] := by
        generalize ar.toList = l at e4
        cases e4; rfl
      exact ⟨[], [], .nil, List.nodup_nil, .nil, ⟨o, ar, ep, e1, e2, e3, by rw [e6]; rfl, fun _ z => (nomatch z), List.nodup_nil⟩, Nat.zero_le _, low, by rw [ha]; trivial⟩
    | cons _ _ =>
      unfold gnK at g
      rw [List.all_cons, Bool.and_eq_true] at g
      rename_i k _ _ _ _ _ _
      cases k <;> exact absurd g.1 Bool.false_ne_true
  · obtain ⟨⟨hl, low, xs, o, ar, ep, p, e1, e2, e3, e4⟩, _⟩ := ok a _ ha
    refine ⟨es, xs, h2, h3, p, ⟨o, ar, ep, e1, e2, e3, ?_, DqG.nests ok (h2.same sub) p, ?_⟩, hl, low, by rw [ha]; trivial⟩
    · rw [e4, hw]; rfl
    · have : ∀ {es : List Ge} {xs : List (NestedKey × Addr × Value)}, Paired DgPr es xs → xs.map (·.1) = es.map (·.1) := by
        intro es xs p
        induction p with
        | nil => rfl
        | cons a _ ih => rw [List.map_cons, List.map_cons, ih, a.1]
      rw [this p]; exact h3
end
theorem lookX {es : List Ge} {xs : List (NestedKey × Addr × Value)} (p : Paired DgPr es xs) (k : NestedKey) : RelO (lookG es k) ((atKey xs k).map (·.2)) := by
  induction p with
  | nil => trivial
  | @cons e x es xs h t ih =>
    obtain ⟨e1, _, e3⟩ := h
    unfold lookG atKey at ih ⊢
    rw [List.find?_cons, List.find?_cons, e1]
    cases q : decide (x.1 = k) with
    | true => exact e3
    | false => exact ih
theorem anyX {es : List Ge} {xs : List (NestedKey × Addr × Value)} (p : Paired DgPr es xs) (k : NestedKey) : (es.any fun e => decide (e.1 = k)) = (atKey xs k).isSome := by
  induction p with
  | nil => rfl
  | @cons e x es xs h t ih =>
    unfold atKey at ih ⊢
    rw [List.any_cons, List.find?_cons, h.1]
    cases q : decide (x.1 = k) with
    | true => rfl
    | false => simpa using ih
theorem putX {es : List Ge} {xs : List (NestedKey × Addr × Value)} (p : Paired DgPr es xs) (k : NestedKey) (b : Addr) {v : V} {u : Value} (r : RelV v u) : Paired DgPr (putG es k b v) (storedH xs k b u) := by
  unfold putG storedH
  rw [anyX p k]
  by_cases q : (atKey xs k).isSome = true
  · rw [if_pos q, if_pos q]
    clear q
    induction p with
    | nil => exact .nil
    | @cons e x es xs h t ih =>
      rw [List.map_cons, List.map_cons]
      refine .cons ?_ ih
      unfold putAt
      rw [h.1]
      by_cases z : x.1 = k
      · rw [if_pos z, if_pos z]; exact ⟨rfl, h.2.1, r⟩
      · rw [if_neg z, if_neg z]; exact h
  · rw [if_neg q, if_neg q]
    clear q
    induction p with
    | nil => exact .cons ⟨rfl, rfl, r⟩ .nil
    | @cons e x es xs h t ih => exact .cons h ih
section
variable {X : Cx}
/-- what a rule over a dict and a key asks -/
def DcAt (w : World) (H : Hp) (y x : V) (KK : Kw) (F : Hp) (a : Addr) (o : HO) (kvs : List (PyData × PyData)) (kd : PyData) : Prop :=
  KK.w = w ∧ y = .ref a ∧ H a = some o ∧ Same F H ∧ DcOk KK F a kvs o ∧ Dq KK F x kd ∧ okK kvs kd = true
theorem okK_or {kvs : List (PyData × PyData)} {kd : PyData} (h : okK kvs kd = true) : (flK kvs = true ∧ ∃ k, keyD kd = some k) ∨ (gnK kvs = true ∧ gnD kd = true) := by
  unfold okK at h
  rw [Bool.or_eq_true, Bool.and_eq_true, Bool.and_eq_true] at h
  exact h.imp (fun h => ⟨h.1, Option.isSome_iff_exists.mp h.2⟩) id
/-- k in d -/
def rDIn (w : World) (neg : Bool) : R2 := fun x y H Q => ∃ KK F a o kvs kd, DcAt w H y x KK F a o kvs kd ∧ Q (.bl (if neg then !(lookD kvs kd).isSome else (lookD kvs kd).isSome)) H
theorem op_dIn (hu : X.A.units + 64 < cLine) : OpR X (compareOp .In) (rDIn X.w false) := by
  intro pins s σ H x y v u Q I rx ry h
  obtain ⟨KK, F, a, o, kvs, kd, ⟨hw, rfl, ha, sub, hc, hk, ok⟩, q⟩ := h
  cases ry
  rcases okK_or ok with ⟨f, k, ek⟩ | ⟨g, gk⟩
  · obtain ⟨ws, rfl, hd⟩ := hc.flat f
    obtain ⟨rfl, rfl⟩ := keyD_ok hk ek
    refine d_in (o := valV ws k) (by omega) I (.k ha) rx fun s' I' => ⟨.bl (valV ws k).isSome, H, I', rfl, ?_⟩
    rw [(lookD_flat hd).same_some]; exact q
  · obtain ⟨ds, ks, rfl, ek, hdep⟩ := gnD_ok gk
    obtain ⟨es, xs, h1, h2, h3, h4, h5, h6, h7⟩ := dc_gen (P := X.prog) I.hok sub hw ha hc g
    obtain ⟨b, rfl⟩ : ∃ b, x = .ref b := by cases hk; exact ⟨_, rfl⟩
    cases rx
    refine wpAny_in_heap (knd := nestedKind X.prog X.w) (show X.A.units + 1 + 8 < cLine by omega) ⟨Dq.nest I.hok (hk.same sub) rfl ek, hdep⟩ h6 h4 ⟨.bl (atKey xs (.tup ks)).isSome, H, I.tok _, rfl, ?_⟩
    have e1 := (lookX h3 (.tup ks)).isSome_eq
    rw [Option.isSome_map] at e1
    have e2 := (lookG_ok ek h1).same_some
    rw [← e1, e2]; exact q
theorem op_dNotIn (hu : X.A.units + 64 < cLine) : OpR X (compareOp .NotIn) (rDIn X.w true) := by
  intro pins s σ H x y v u Q I rx ry h
  obtain ⟨KK, F, a, o, kvs, kd, ⟨hw, rfl, ha, sub, hc, hk, ok⟩, q⟩ := h
  cases ry
  rcases okK_or ok with ⟨f, k, ek⟩ | ⟨g, gk⟩
  · obtain ⟨ws, rfl, hd⟩ := hc.flat f
    obtain ⟨rfl, rfl⟩ := keyD_ok hk ek
    refine d_notIn (o := valV ws k) (by omega) I (.k ha) rx fun s' I' => ⟨.bl (!(valV ws k).isSome), H, I', rfl, ?_⟩
    rw [(lookD_flat hd).same_some]; exact q
  · obtain ⟨ds, ks, rfl, ek, hdep⟩ := gnD_ok gk
    obtain ⟨es, xs, h1, h2, h3, h4, h5, h6, h7⟩ := dc_gen (P := X.prog) I.hok sub hw ha hc g
    obtain ⟨b, rfl⟩ : ∃ b, x = .ref b := by cases hk; exact ⟨_, rfl⟩
    cases rx
    refine notIn_keyed (knd := nestedKind X.prog X.w) (kvs := pairsH xs) (show X.A.units + 1 + 8 < cLine by omega) ⟨Dq.nest I.hok (hk.same sub) rfl ek, hdep⟩ h6 ⟨xs, h4, rfl⟩ ⟨.bl (!(valueAt (pairsH xs) (.tup ks)).isSome), H, I.tok _, rfl, ?_⟩
    rw [valueAt_pairsH, Option.isSome_map]
    have e1 := (lookX h3 (.tup ks)).isSome_eq
    rw [Option.isSome_map] at e1
    have e2 := (lookG_ok ek h1).same_some
    rw [← e1, e2]; exact q
def gInD (neg : Bool) (a b : PyData) : Option Bool := match b with
  | .dict kvs => if okK kvs a = true then some (if neg then !(lookD kvs a).isSome else (lookD kvs a).isSome) else none
  | _ => none
theorem dict_at {K : Kw} {F H : Hp} {v : V} {kvs : List (PyData × PyData)} {kd : PyData} (h : Vw K F H v (.dict kvs)) (ok : okK kvs kd = true) : ∃ a o, v = .ref a ∧ H a = some o ∧ DcOk K F a kvs o := by
  rcases h with h | ⟨x, r, rfl, _⟩
  · exact h
  · rcases okK_or ok with ⟨f, _⟩ | ⟨f, _⟩ <;> cases f
theorem key_at {K : Kw} {F H : Hp} {v : V} {kd : PyData} {kvs : List (PyData × PyData)} (h : Vw K F H v kd) (ok : okK kvs kd = true) : Dq K F v kd := by
  cases kd with
  | list _ => rcases okK_or ok with ⟨_, _, f⟩ | ⟨_, f⟩ <;> cases f
  | dict _ => rcases okK_or ok with ⟨_, _, f⟩ | ⟨_, f⟩ <;> cases f
  | _ => exact h
variable {C : Cn} {neg : Bool}
theorem gInD_ok (hw : C.K.w = X.w) : CmpOk C (rDIn X.w neg) (gInD neg) := by
  intro a b k v u μ F H st Q s va vb e q
  cases b with
  | dict kvs =>
    unfold gInD at e
    simp only at e
    by_cases ok : okK kvs a = true
    · rw [if_pos ok] at e
      cases e
      obtain ⟨p, o, rfl, h1, h2⟩ := dict_at vb ok
      exact ⟨C.K, F, p, o, kvs, a, ⟨hw, rfl, h1, s.sub, h2, key_at va ok, ok⟩, q⟩
    · rw [if_neg ok] at e; cases e
  | _ => cases e
variable {a b : Expr} {ma mb : Ev} {pos : Pos} {k : Nat}
theorem v_dIn (B : Bd k X C) (ha : PE X a (tM C ma)) (hb : PE X b (tM C mb)) (hm : behindInMarks .In b = false) : PE X (.Compare a [.In] [b] pos) (tM C (bV (mCmp (gInD false) ma mb))) := s_cmp (op_dIn B.rm.hu) (gInD_ok B.hw) ha hb hm
theorem v_dNotIn (B : Bd k X C) (ha : PE X a (tM C ma)) (hb : PE X b (tM C mb)) (hm : behindInMarks .NotIn b = false) : PE X (.Compare a [.NotIn] [b] pos) (tM C (bV (mCmp (gInD true) ma mb))) := s_cmp (op_dNotIn B.rm.hu) (gInD_ok B.hw) ha hb hm
theorem t_dIn (B : Bd k X C) (ha : PE X a (tM C ma)) (hb : PE X b (tM C mb)) (hm : behindInMarks .In b = false) : PT X (.Compare a [.In] [b] pos) (tT C (mCmp (gInD false) ma mb)) := s_cmpT (op_dIn B.rm.hu) (gInD_ok B.hw) ha hb hm
theorem t_dNotIn (B : Bd k X C) (ha : PE X a (tM C ma)) (hb : PE X b (tM C mb)) (hm : behindInMarks .NotIn b = false) : PT X (.Compare a [.NotIn] [b] pos) (tT C (mCmp (gInD true) ma mb)) := s_cmpT (op_dNotIn B.rm.hu) (gInD_ok B.hw) ha hb hm
/-! ### d[k] -/
def tDIx (w : World) (td ty : TE) : TE := fun σ H Q => td σ H fun y H1 => ty σ H1 fun x H2 => ∃ KK F a o kvs kd dv, DcAt w H2 y x KK F a o kvs kd ∧ lookD kvs kd = some dv ∧ ∀ v, Dq KK F v dv → Q v H2
theorem pe_dix {o i : Expr} {td ty : TE} (hu : X.A.units + 64 < cLine) (ho : PE X o td) (hi : PE X i ty) (hs : NoSl i) : PE X (.Subscript o i pos) (tDIx X.w td ty) := by
  refine ⟨fun pins s σ H Q I h => ?_⟩
  refine subD_of PySem.F.slot_dict_getitem.lookup hs (thn (ho.run pins s σ H _ I h) fun u s1 ⟨y, H1, I1, ry, q1⟩ => thn (hi.run pins s1 σ H1 _ I1 q1) fun iv s2 ⟨x, H2, I2, rx, KK, F, a, o, kvs, kd, dv, ⟨hw, ey, ha, sub, hc, hk, ok⟩, hl, q⟩ => ?_)
  subst ey
  cases ry
  rcases okK_or ok with ⟨f, k, ek⟩ | ⟨g, gk⟩
  · obtain ⟨ws, rfl, hd⟩ := hc.flat f
    obtain ⟨rfl, rfl⟩ := keyD_ok hk ek
    have hv := lookD_flat (k := k) hd
    rw [hl] at hv
    cases q1 : valV ws k with
    | none => rw [q1] at hv; exact False.elim hv
    | some v =>
      rw [q1] at hv
      have g : DGet H2 a (kV k) (some v) := by rw [← q1]; exact .k ha
      exact ⟨dict_typeIs I2 g, d_getItem (by omega) I2 g rx fun w' s3 I3 rw' => ⟨v, H2, I3, rw', q v hv⟩⟩
  · obtain ⟨ds, ks, rfl, ek, hdep⟩ := gnD_ok gk
    obtain ⟨es, xs, h1, h2, h3, h4, h5, h6, h7⟩ := dc_gen (P := X.prog) I2.hok sub hw ha hc g
    obtain ⟨b, rfl⟩ : ∃ b, x = .ref b := by cases hk; exact ⟨_, rfl⟩
    cases rx
    have hv := lookG_ok ek h1
    rw [hl] at hv
    cases q1 : lookG es (.tup ks) with
    | none => rw [q1] at hv; exact False.elim hv
    | some v =>
      rw [q1] at hv
      have hr := lookX h3 (.tup ks)
      rw [q1] at hr
      cases q2 : atKey xs (.tup ks) with
      | none => rw [q2] at hr; exact False.elim hr
      | some p =>
        rw [q2] at hr
        exact ⟨h4.typeIs, wpAny_getItem_heap (knd := nestedKind X.prog X.w) (show X.A.units + 1 + 8 < cLine by omega) ⟨Dq.nest I2.hok (hk.same sub) rfl ek, hdep⟩ h4 q2 ⟨v, H2, I2.tok _, hr, q v hv⟩⟩
def fDix (a b : PyData) : Option Rv := match a with
  | .dict kvs => if okK kvs b = true then (lookD kvs b).map .d else none
  | _ => none
variable {o i : Expr} {mo mi : Ev}
theorem s_dix (B : Bd k X C) (ho : PE X o (tM C mo)) (hi : PE X i (tM C mi)) (hs : NoSl i) : PE X (.Subscript o i pos) (tM C (mBin fDix mo mi)) :=
  (pe_dix B.rm.hu (pv_frz ho) (pv_frz hi) hs).imp fun σ H Q ⟨ρ, st, μ, F, h1, h2, h3⟩ => ⟨ρ, st, μ, F, h1, h2, Post.bindV gE_lat h3 fun x s v μ1 F1 H1 x1 r1 k1 h4 =>
    ⟨ρ, s, μ1, F1, h1.ext x1, r1, Post.bindV gE_lat h4 fun y s2 u μ2 F2 H2 x2 r2 k2 h5 => by
      unfold view2 at h5
      cases q1 : view s2 x with
      | none => simp only [q1] at h5; exact False.elim h5
      | some da =>
        cases q2 : view s2 y with
        | none => simp only [q1, q2] at h5; exact False.elim h5
        | some db =>
          simp only [q1, q2] at h5
          cases da with
          | dict kvs =>
            unfold fDix at h5
            simp only at h5
            by_cases ok : okK kvs db = true
            · rw [if_pos ok] at h5
              obtain ⟨p, ob, e1, g1, g2⟩ := dict_at (view_ok r2 (k1.ext x2) q1) ok
              cases q3 : lookD kvs db with
              | none => rw [q3] at h5; exact False.elim h5
              | some dv =>
                rw [q3] at h5
                exact ⟨C.K, F2, p, ob, kvs, db, dv, ⟨B.hw, e1, g1, r2.sub, g2, key_at (view_ok r2 k2 q2) ok, ok⟩, q3, fun v hv => fin_d r2 h5 hv⟩
            · rw [if_neg ok] at h5; exact False.elim h5
          | _ => exact False.elim h5⟩⟩
/-! ### d[k] = v -/
theorem ok_notGone {kvs : List (PyData × PyData)} {kd : PyData} (h : okK kvs kd = true) : isGone (.m kvs) = false := by
  cases q : isGone (.m kvs) with
  | false => rfl
  | true =>
    have e : ∃ v, kvs = [(.list [], v)] := by
      unfold isGone at q
      split at q
      · rename_i e; injection e with e; exact ⟨_, e⟩
      · rename_i e; injection e with e; exact ⟨_, e⟩
      · cases q
    obtain ⟨v, e⟩ := e
    subst e
    rcases okK_or h with ⟨f, _⟩ | ⟨f, _⟩ <;> cases f
/-- what is behind d[k] = v -/
theorem d_put {pins : List (Addr × Obj)} {σ : St} {s : Shared} {K : Kw} {F H : Hp} {a : Addr} {o : HO} {kvs : List (PyData × PyData)} {kd dv : PyData} {x v : V} {u r : Value} {Q : Unit → Shared → Prop} (hu : X.A.units + 64 < cLine) (I : Inv X pins σ H s) (hw : K.w = X.w) (ha : H a = some o) (sub : Same F H) (hc : DcOk K F a kvs o)
    (hk : Dq K F x kd) (ok : okK kvs kd = true) (hl : kvs.length < sizeLine) (hv : Dq K F v dv) (rx : RelV x u) (rv : RelV v r) (h : ∀ o' s', DcOk K F a (putD kvs kd dv) o' → Inv X pins σ (upd H a o') s' → Q () s') :
    wpAny (model X.prog X.w) X.A (setItem (.ref a) u r) Q X.xe s := by
  rcases okK_or ok with ⟨f, k, ek⟩ | ⟨g, gk⟩
  · obtain ⟨ws, rfl, hd⟩ := hc.flat f
    obtain ⟨rfl, rfl⟩ := keyD_ok hk ek
    have hlen : ws.length = kvs.length := by
      have : ∀ {ws : List (Key × V)} {kvs : List (PyData × PyData)}, DqKv K F ws kvs → ws.length = kvs.length := by
        intro ws kvs h
        induction ws generalizing kvs with
        | nil => cases h; rfl
        | cons w ws ih => cases h with | cons a b => rw [List.length_cons, List.length_cons, ih b]
      exact this hd
    exact d_setItem (by omega) I (DPut.k ha (by rw [hlen]; exact hl)) rx rv fun s' I' => h _ s' (.inl ⟨_, rfl, put_flat hd hv⟩) I'
  · obtain ⟨ds, ks, rfl, ek, hdep⟩ := gnD_ok gk
    obtain ⟨es, xs, h1, h2, h3, h4, h5, h6, h7⟩ := dc_gen (P := X.prog) I.hok sub hw ha hc g
    obtain ⟨b, rfl⟩ : ∃ b, x = .ref b := by cases hk; exact ⟨_, rfl⟩
    cases rx
    have hlen : es.length = kvs.length := by
      have : ∀ {es : List Ge} {kvs : List (PyData × PyData)}, DqG K F es kvs → es.length = kvs.length := by
        intro es kvs h
        induction es generalizing kvs with
        | nil => cases h; rfl
        | cons w ws ih => cases h with | cons a b c d e => rw [List.length_cons, List.length_cons, ih e]
      exact this h1
    refine wpAny_setItem_heap (knd := nestedKind X.prog X.w) (hsz := by rw [← Paired.length h3]; exact h5) (show X.A.units + 1 + 8 < cLine by omega) ⟨Dq.nest I.hok (hk.same sub) rfl ek, hdep⟩ h4 fun h' dd' hs => ?_
    have hp := putX h3 (.tup ks) b rv
    have hlp : (putG es (.tup ks) b v).length ≤ sizeLine := by have := @putG_len es (.tup ks) b v; omega
    obtain ⟨ob, ar, ep, e1, e2, e3, e4, _, _⟩ := dd'
    refine h (dgO K.w a (putG es (.tup ks) b v)) _ (.inr ⟨_, rfl, putG_ok ek hdep hk hv h1, putG_nodup h2, putG_ne⟩) (d_write I h7 hs ⟨ob, e1⟩ ?_)
    refine ⟨⟨hlp, h6, _, ob, ar, ep, hp, e1, e2, e3, by rw [e4, hw]; rfl⟩, ⟨ob, e1⟩, fun g1 g2 ⟨l1, l2, ys, oz, az, ez, z1, z2, z3, z4, z5⟩ st => ⟨l1, l2, ys, oz, az, ez, z1, st _ z2, z3, z4, z5⟩⟩
def sDput (mo mk mv : Ev) : Sv := fun ρ st => (mV mv ρ st).toS fun x s1 => (mV mo ρ s1).toS fun y s2 => (mV mk ρ s2).toS fun z s3 => match x, y, z with
  | .d x, .c i, .d k => (match s3[i]? with
    | some (.m kvs) => if okK kvs k = true ∧ kvs.length < sizeLine then .nx ρ (s3.set i (.m (putD kvs k x))) else .no
    | _ => .no)
  | _, _, _ => .no
variable {value : Expr} {mv : Ev} {pos' : Pos}
theorem x_dput (B : Bd k X C) (ho : PE X o (tM C mo)) (hi : PE X i (tM C mi)) (hv : PE X value (tM C mv)) (hs : swapsWith value (some (.Subscript o i pos')) pos.line X.env = pure false := by rfl) :
    PS X (.Assign [.Subscript o i pos'] value pos) (tS C (sDput mo mi mv)) := by
  refine ⟨fun pins s σ H D I ⟨ρ, st, μ, F, h1, h2, h3⟩ => ?_⟩
  refine wpAny_Assign_Subscript (thn ((pv_frz hv).run pins s σ H (fun v H1 => tV C (mV mo) σ H1 fun y H2 => tV C (mV mi) σ H2 fun x H3 => ∃ (KK : Kw) (F : Hp) (a : Addr) (ob : HO) (kvs : List (PyData × PyData)) (kd dv : PyData), KK.w = X.w ∧ y = .ref a ∧ H3 a = some ob ∧ Same F H3 ∧ DcOk KK F a kvs ob ∧ Dq KK F x kd ∧ okK kvs kd = true ∧ kvs.length < sizeLine ∧ Dq KK F v dv ∧ ∀ o', DcOk KK F a (putD kvs kd dv) o' → D.nx σ (upd H3 a o')) I
      ⟨ρ, st, μ, F, h1, h2, PostS.bindV h3 fun x s v μ1 F1 H1 x1 r1 k1 h4 => ⟨ρ, s, μ1, F1, h1.ext x1, r1, PostS.bindV h4 fun y s2 u μ2 F2 H2 x2 r2 k2 h5 => ⟨ρ, s2, μ2, F2, (h1.ext x1).ext x2, r2, PostS.bindV h5 fun z s3 w μ3 F3 H3 x3 r3 k3 h6 => ?_⟩⟩⟩)
    fun r s1 ⟨v, H1, I1, rv, q1⟩ => thn ((pv_frz ho).run pins s1 σ H1 _ I1 q1) fun u s2 ⟨y, H2, I2, ry, q2⟩ => thn ((pv_frz hi).run pins s2 σ H2 _ I2 q2) fun iv s3 ⟨x, H3, I3, rx, KK, F, a, ob, kvs, kd, dv, hw, ey, ha, sub, hc, hk, ok, hl, hv, q⟩ => ?_) hs
  · cases x with
    | d x =>
      cases y with
      | c j =>
        cases z with
        | d k =>
          cases q : s3[j]? with
          | none => simp only [q] at h6; exact False.elim h6
          | some cl =>
            cases cl with
            | l _ => simp only [q] at h6; exact False.elim h6
            | m kvs =>
              simp only [q] at h6
              by_cases hh : okK kvs k = true ∧ kvs.length < sizeLine
              · rw [if_pos hh] at h6
                obtain ⟨a, e1, rfl⟩ := k2
                have e1 := x3.get e1
                obtain ⟨b, ob, g1, g2, g3⟩ := r3.cell j _ q (ok_notGone hh.1)
                rw [e1] at g1; cases g1
                refine ⟨C.K, F3, a, ob, kvs, k, x, B.hw, rfl, g2, r3.sub, g3, k3, hh.1, hh.2, (Dq.same x2.same k1).same x3.same, fun o' hc' => ?_⟩
                obtain ⟨w1, w2⟩ := r3.write e1 (show ClOk C.K F3 a (.m (putD kvs k x)) o' from hc') q (ok_notGone hh.1)
                exact h6 _ _ _ _ w2 w1 ((((h1.ext x1).ext x2).ext x3).ext w2)
              · rw [if_neg hh] at h6; exact False.elim h6
        | _ => exact False.elim h6
      | _ => exact False.elim h6
    | _ => exact False.elim h6
  · subst ey
    cases ry
    exact d_put B.rm.hu I3 hw ha sub hc hk ok hl hv rx rv fun o' s' hc' I' => ⟨σ, _, I', q o' hc'⟩
variable {E : Er → Sto → Prop} {ρ : En} {st : Sto} {N Bk Ct : En → Sto → Prop} {R : Rv → Sto → Prop}
@[simp] theorem W_sDput : WSe E (sDput mo mi mv ρ st) N Bk Ct R = WVe E (mv ρ st) fun x s1 => WVe E (mo ρ s1) fun y s2 => WVe E (mi ρ s2) fun z s3 => (match frz x, frz y, frz z with
    | .d x, .c i, .d k => (match s3[i]? with
      | some (.m kvs) => (okK kvs k = true ∧ kvs.length < sizeLine) ∧ N ρ (s3.set i (.m (putD kvs k x)))
      | _ => False)
    | _, _, _ => False) := by
  unfold sDput
  rw [WS_toS, W_mV]
  congr 1; funext x s1; rw [WS_toS, W_mV]
  congr 1; funext y s2; rw [WS_toS, W_mV]
  congr 1; funext z s3
  generalize frz x = x'
  generalize frz y = y'
  generalize frz z = z'
  cases x' <;> cases y' <;> cases z' <;> try rfl
  rename_i x i k
  dsimp only
  cases s3[i]? with
  | none => rfl
  | some c =>
    cases c with
    | l _ => rfl
    | m kvs =>
      dsimp only
      by_cases hh : okK kvs k = true ∧ kvs.length < sizeLine
      · rw [if_pos hh]; exact propext ⟨fun z => ⟨hh, z⟩, fun z => z.2⟩
      · rw [if_neg hh]; exact propext ⟨fun z => False.elim z, fun z => absurd z.1 hh⟩
@[simp] theorem fDix_d (kvs : List (PyData × PyData)) (k : PyData) : fDix (.dict kvs) k = if okK kvs k = true then (lookD kvs k).map .d else none := rfl
@[simp] theorem gInD_d (neg : Bool) (a : PyData) (kvs : List (PyData × PyData)) : gInD neg a (.dict kvs) = if okK kvs a = true then some (if neg then !(lookD kvs a).isSome else (lookD kvs a).isSome) else none := rfl
end
end Cp
/-! De: d.update(d2), sorted(d) of flat dicts. -/
namespace Cp
open PySem L2
/-! ### d.update(d2), flat keys -/
def mergeD (kvs lvs : List (PyData × PyData)) : List (PyData × PyData) := lvs.foldl (fun acc p => putD acc p.1 p.2) kvs
section
variable {K : Kw} {F H : Hp}
theorem merge_flat : ∀ {us : List (Key × V)} {lvs : List (PyData × PyData)} {ws : List (Key × V)} {kvs : List (PyData × PyData)}, DqKv K F us lvs → DqKv K F ws kvs → DqKv K F (mergeK ws us) (mergeD kvs lvs)
  | _, _, _, _, .nil, h => h
  | _, _, _, _, .cons (k := k) (v := v) (d := d) h t, g => by
    show DqKv K F (mergeK (putK _ k v) _) (mergeD (putD _ (kD k) d) _)
    exact merge_flat t (put_flat g h)
theorem dqKv_len : ∀ {ws : List (Key × V)} {kvs : List (PyData × PyData)}, DqKv K F ws kvs → ws.length = kvs.length
  | _, _, .nil => rfl
  | _, _, .cons _ t => by rw [List.length_cons, List.length_cons, dqKv_len t]
theorem mergeK_len : ∀ (us ws : List (Key × V)), (mergeK ws us).length ≤ ws.length + us.length
  | [], ws => Nat.le_refl _
  | (k, v) :: us, ws => by
    show (mergeK (putK ws k v) us).length ≤ _
    have h1 := mergeK_len us (putK ws k v)
    have h2 := length_putK ws k v
    rw [List.length_cons]
    omega
end
section
variable {X : Cx} {C : Cn} {o e a : Expr} {mo ma : Ev} {apos cpos pos p : Pos}
def rUpd : V → List V → Hp → VK → Prop := fun x xs H Q => ∃ a ws b us, x = .ref a ∧ xs = [.ref b] ∧ a ≠ b ∧ H a = some (.dK ws) ∧ H b = some (.dK us) ∧ ws.length + us.length ≤ sizeLine ∧ Q .non (upd H a (.dK (mergeK ws us)))
theorem mt_upd : MtR X "dict.update" rUpd := by
  intro pins s σ H x xs v us Q I rx rxs h
  obtain ⟨a, ws, b, ys, rfl, rfl, hab, ha, hb, hl, q⟩ := h
  cases rx
  obtain ⟨u, rfl, ru⟩ := vals1 rxs
  cases ru
  obtain ⟨z, lo, vs, rel, dd⟩ := dk_of I.hok ha
  obtain ⟨z2, lo2, ms, rel2, dd2⟩ := dk_of I.hok hb
  refine call_meetsIn PySem.F.slot_dict_update dd.typeIs PySem.F.entry_dict_update (PySem.F.args_dict_update_2 _ _) (meets_dict_update (mixKind X.prog X.w) a b hab lo2)
    ⟨vs, ms, dd, dd2, by rw [← rel.length, ← rel2.length]; exact hl, fun h' dd' _ hs => ?_⟩
  have he : ∃ q, h'.get? a = some q := let ⟨q, _, _, hq, _⟩ := dd'; ⟨q, hq⟩
  exact ⟨.non, _, d_write (t' := s.toks) I (by rw [ha]; exact True.intro) hs he (dk_new (Nat.le_trans (mergeK_len _ _) hl) lo (KV.merge rel2 rel) dd'), rfl, q⟩
def mUpd (mo ma : Ev) : Ev := fun ρ st => (mV mo ρ st).bind fun x s1 => match view s1 x with
  | some (.dict kvs0) => if flK kvs0 = true then (mV ma ρ s1).bind fun y s2 => match x, y with
    | .c i, .d (.dict lvs) => (match s2[i]? with
      | some (.m kvs) => if flK kvs = true ∧ flK lvs = true ∧ isGone (.m kvs) = false ∧ kvs.length + lvs.length ≤ sizeLine then .ok (.d .none) (s2.set i (.m (mergeD kvs lvs))) else .no
      | _ => .no)
    | _, _ => .no else .no
  | _ => .no
theorem s_upd (h : PE X e (tBM X.K "dict" rUpd (tV C (mV mo)) (tCons (tV C (mV ma)) tNil))) : PE X e (tM C (mUpd mo ma)) :=
  h.imp fun σ H Q ⟨ρ, st, μ, F, h1, h2, h3⟩ => ⟨ρ, st, μ, F, h1, h2, Post.bindV gE_lat h3 fun x s v μ1 F1 H1 x1 r1 k1 h4 => by
    cases q1 : view s x with
    | none => simp only [q1] at h4; exact False.elim h4
    | some dx =>
      cases dx with
      | dict kvs0 =>
        simp only [q1] at h4
        by_cases hf0 : flK kvs0 = true
        case neg => rw [if_neg hf0] at h4; exact False.elim h4
        rw [if_pos hf0] at h4
        obtain ⟨pp, ws0, rfl, g0, _⟩ := (view_ok r1 k1 q1).flat_dict hf0
        refine ⟨.inr (.inr (.inl ⟨rfl, .inl ⟨_, g0⟩⟩)), ρ, s, μ1, F1, h1.ext x1, r1, Post.bindV gE_lat h4 fun y s2 u μ2 F2 H2 x2 r2 k2 h5 => ?_⟩
        cases x with
        | c i =>
          cases y with
          | d dy =>
            cases dy with
            | dict lvs =>
              cases q : s2[i]? with
              | none => simp only [q] at h5; exact False.elim h5
              | some cl =>
                cases cl with
                | l _ => simp only [q] at h5; exact False.elim h5
                | m kvs =>
                  simp only [q] at h5
                  by_cases hh : flK kvs = true ∧ flK lvs = true ∧ isGone (.m kvs) = false ∧ kvs.length + lvs.length ≤ sizeLine
                  case neg => rw [if_neg hh] at h5; exact False.elim h5
                  rw [if_pos hh] at h5
                  obtain ⟨hh1, hh2, hh3, hh4⟩ := hh
                  obtain ⟨a, e1, e2⟩ := k1
                  cases e2
                  have e1 := x2.get e1
                  obtain ⟨b, ob, g1, g2, g3⟩ := r2.cell i _ q hh3
                  rw [e1] at g1; cases g1
                  obtain ⟨ws, rfl, g4⟩ := DcOk.flat g3 hh1
                  have kd : Dq C.K F2 u (.dict lvs) := k2
                  obtain ⟨b, us, rfl, e3, e4⟩ : ∃ b us, u = .ref b ∧ F2 b = some (.dK us) ∧ DqKv C.K F2 us lvs := by
                    cases kd with
                    | dic a1 a2 => exact ⟨_, _, rfl, a1, a2⟩
                    | dig a1 a2 a3 a4 =>
                      obtain ⟨ws, e, _⟩ := DcOk.flat (K := C.K) (F := F2) (a := pp) (o := dgO C.K.w pp _) (.inr ⟨_, rfl, a2, a3, a4⟩) hh2
                      cases e
                    | ins _ _ _ => cases hh2
                  have hne : pp ≠ b := fun e => by
                    subst e
                    have := r2.sep i pp _ e1 q (notDead hh3)
                    rw [e3] at this; cases this
                  obtain ⟨w1, w2⟩ := r2.write e1 (show ClOk C.K F2 pp (.m (mergeD kvs lvs)) (.dK (mergeK ws us)) from .inl ⟨_, rfl, merge_flat e4 g4⟩) q hh3
                  exact ⟨pp, ws, b, us, rfl, rfl, hne, g2, r2.sub _ _ e3, by rw [dqKv_len g4, dqKv_len e4]; exact hh4, h5 .non _ _ _ ⟨w2, w1, .non, fun _ z => nomatch z⟩⟩
            | _ => exact False.elim h5
          | _ => exact False.elim h5
        | _ => exact False.elim h5
      | _ => simp only [q1] at h4; exact False.elim h4⟩
theorem y_upd (ho : PE X o (tM C mo)) (he : PE X a (tM C ma)) (hbase : attributeBase o "update" X.env (eval o X.env) = eval o X.env := by rfl)
    (hfew : ((backTo cpos (starEach [a] X.env)).all (fun x => !x.1) && (backToKw cpos (keywordEach [] X.env)).all (fun x => x.1.isSome) && decide ([a].length + ([] : List Keyword).length + (if ([] : List Keyword).isEmpty then 0 else 1) < 30)) = true := by rfl)
    (hline : (apos.endLine == cpos.line) = true := by rfl) (hs : starEach [a] X.env = (false, eval a X.env) :: starEach [] X.env := by rfl) (hpl : NA X [] cpos := by rfl) : PE X (.Call (.Attribute o "update" apos) [a] [] cpos) (tM C (mUpd mo ma)) :=
  s_upd (pe_bm PySem.F.plainAttrs_dict PySem.F.slot_dict_update PySem.F.type_dict_update mt_upd (pv_frz ho) (pa_cons (pv_frz he) pa_nil hs) hbase hfew hline hs hpl)
variable {E : Er → Sto → Prop} {ρ : En} {st : Sto} {PE' : Rv → Sto → Prop}
@[simp] theorem W_mUpd : WVe E (mUpd mo ma ρ st) PE' = WVe E (mo ρ st) fun x s1 => (match view s1 (frz x) with
    | some (.dict kvs0) => flK kvs0 = true ∧ WVe E (ma ρ s1) fun y s2 => (match frz x, frz y with
      | .c i, .d (.dict lvs) => (match s2[i]? with
        | some (.m kvs) => (flK kvs = true ∧ flK lvs = true ∧ isGone (.m kvs) = false ∧ kvs.length + lvs.length ≤ sizeLine) ∧ PE' (.d .none) (s2.set i (.m (mergeD kvs lvs)))
        | _ => False)
      | _, _ => False)
    | _ => False) := by
  unfold mUpd; rw [WV_bind, W_mV]
  congr 1; funext x s1
  generalize frz x = x'
  cases view s1 x' with
  | none => rfl
  | some d =>
    cases d with
    | dict kvs0 =>
      dsimp only
      by_cases hf0 : flK kvs0 = true
      case neg => rw [if_neg hf0]; exact propext ⟨fun z => False.elim z, fun z => absurd z.1 hf0⟩
      rw [if_pos hf0, and_iff_right hf0, WV_bind, W_mV]
      congr 1; funext y s2
      generalize frz y = y'
      cases x' with
      | c i =>
        cases y' with
        | d d =>
          cases d with
          | dict lvs =>
            dsimp only
            cases s2[i]? with
            | none => rfl
            | some c =>
              cases c with
              | l _ => rfl
              | m kvs =>
                dsimp only
                by_cases hh : flK kvs = true ∧ flK lvs = true ∧ isGone (.m kvs) = false ∧ kvs.length + lvs.length ≤ sizeLine
                · rw [if_pos hh]; exact propext ⟨fun z => ⟨hh, z⟩, fun z => z.2⟩
                · rw [if_neg hh]; exact propext ⟨fun z => False.elim z, fun z => absurd z.1 hh⟩
          | _ => rfl
        | _ => rfl
      | _ => rfl
    | _ => rfl
end
/-! ### sorted(d), its keys texts -/
open PyProof.Rows in
theorem rising_ok : ∀ (r : List Str) (p : Str), risingS p r = true → (p :: r).Pairwise fun x y => x.cps.toList ≤ y.cps.toList
  | [], _, _ => by simp
  | x :: r, p, h => by
    unfold risingS at h
    rw [Bool.and_eq_true, Bool.not_eq_true', ltCps_eq, decide_eq_false_iff_not] at h
    have h1 : p.cps.toList ≤ x.cps.toList := List.not_lt.mp h.1
    have h2 := rising_ok r x h.2
    refine List.pairwise_cons.mpr ⟨fun y hy => ?_, h2⟩
    rcases List.mem_cons.mp hy with rfl | hy
    · exact h1
    · exact List.le_trans h1 ((List.pairwise_cons.mp h2).1 y hy)
open PyProof.Rows in
theorem sortedS_ok {ks : List Str} (h : sortedS ks = true) : ks.Pairwise fun x y => x.cps.toList ≤ y.cps.toList := by
  cases ks with
  | nil => exact .nil
  | cons x r => exact rising_ok r x h
def leS (x y : Str) : Bool := decide (x.cps.toList ≤ y.cps.toList)
theorem leS_anti {x y : Str} (h1 : x.cps.toList ≤ y.cps.toList) (h2 : y.cps.toList ≤ x.cps.toList) : x = y := PySem.W.str_of_cps (List.le_antisymm h1 h2)
/-- the texts in order -/
def sortS (ks : List Str) : List Str := ks.mergeSort leS
theorem sortS_ok (ks : List Str) : (sortS ks).Perm ks ∧ (sortS ks).Pairwise fun x y => x.cps.toList ≤ y.cps.toList := by
  refine ⟨List.mergeSort_perm _ _, ?_⟩
  have := List.pairwise_mergeSort (le := leS) (fun a b c h1 h2 => decide_eq_true (List.le_trans (of_decide_eq_true h1) (of_decide_eq_true h2))) (fun a b => by
    unfold leS
    rcases List.le_total a.cps.toList b.cps.toList with h | h
    · rw [decide_eq_true h]; rfl
    · rw [decide_eq_true h]; simp) ks
  exact this.imp fun h => of_decide_eq_true h
open PyProof.Rows in
theorem sorted_is {ys ks : List Str} (hp : ys.Perm ks) (hs : sortedS ys = true) : ys = sortS ks := by
  obtain ⟨h1, h2⟩ := sortS_ok ks
  exact (hp.trans h1.symm).eq_of_pairwise (fun a b _ _ h1 h2 => leS_anti h1 h2) (sortedS_ok hs) h2
def keysS : List (PyData × PyData) → Option (List Str)
  | [] => some []
  | (.str x, _) :: r => (keysS r).map (x :: ·)
  | _ => none
theorem keysS_ok {K : Kw} {F : Hp} : ∀ {ws : List (Key × V)} {kvs : List (PyData × PyData)} {ks : List Str}, DqKv K F ws kvs → keysS kvs = some ks → ws.map (·.1) = ks.map Sum.inr ∧ flK kvs = true
  | _, _, _, .nil, e => by cases e; exact ⟨rfl, rfl⟩
  | _, _, ks, .cons (k := k) h t, e => by
    cases k with
    | inl i => cases e
    | inr x =>
      have e : (keysS _).map (x :: ·) = some ks := e
      obtain ⟨ks', e1, rfl⟩ := Option.map_eq_some_iff.mp e
      obtain ⟨g1, g2⟩ := keysS_ok t e1
      exact ⟨by rw [List.map_cons, g1]; rfl, g2⟩
theorem keysS_flat : ∀ {kvs : List (PyData × PyData)} {ks : List Str}, keysS kvs = some ks → flK kvs = true
  | [], _, _ => rfl
  | (k, _) :: r, ks, e => by
    cases k with
    | str x =>
      have e : (keysS r).map (x :: ·) = some ks := e
      obtain ⟨ks', e1, rfl⟩ := Option.map_eq_some_iff.mp e
      show flK r = true
      exact keysS_flat e1
    | _ => cases e
def fSortedD (d : PyData) : Option Rv := match d with
  | .dict kvs => (match keysS kvs with
    | some ks => if ks.length < 64 then some (.n (.l ((sortS ks).map PyData.str))) else none
    | none => none)
  | _ => none
section
variable {X : Cx} {C : Cn} {k : Nat} {a : Expr} {mas : En → Sto → Res (List Vl)} {p pos : Pos}
open PyProof.Rows in
theorem fSortedD_ok : CallOk C (fun xs H Q => ∃ (a : Addr) (kvs : List (Key × V)) (ks : List Str), xs = [.ref a] ∧ Rd H a (.dK kvs) ∧ kvs.map (·.1) = ks.map Sum.inr ∧ ks.length < 64 ∧
    ∀ ys p, ys.Perm ks → sortedS ys = true → H p = none → Q (.ref p) (upd H p (.lst (ys.map V.str)))) (g1 fSortedD) := g1_ok fun d res v μ F H st Q s w e p => by
  cases d with
  | dict kvs =>
    unfold fSortedD at e
    simp only at e
    cases q : keysS kvs with
    | none => rw [q] at e; cases e
    | some ks =>
      rw [q] at e
      simp only at e
      by_cases hl : ks.length < 64
      · rw [if_pos hl] at e
        cases e
        obtain ⟨a, ws, rfl, h1, h2⟩ := w.flat_dict (keysS_flat q)
        obtain ⟨g1, _⟩ := keysS_ok h2 q
        refine ⟨a, ws, ks, rfl, .inl h1, g1, hl, fun ys r hp hs hr => ?_⟩
        have e := sorted_is hp hs
        subst e
        have hd : ∀ zs : List Str, DqAll C.K F (zs.map V.str) (zs.map PyData.str) := fun zs => by
          induction zs with
          | nil => exact .nil
          | cons z zs ih => exact .cons (.str z) ih
        exact fin_n s p hr ⟨_, rfl, hd _⟩
      · rw [if_neg hl] at e; cases e
  | _ => cases e
theorem k_sortedD (B : Bd k X C) (hg : Gl X "sorted") (hm : X.mg "sorted" = none) (ha : PA X [a] (tAs C mas)) (he : starEach [a] X.env = (false, eval a X.env) :: starEach [] X.env := by rfl) (hpl : NA X [] pos := by rfl) : PE X (.Call (.Name "sorted" p) [a] [] pos) (tM C (mCal (g1 fSortedD) mas)) :=
  s_callB (call_sortedD B.cm) fSortedD_ok hg hm (by first | rfl | decide +kernel) ha (by decide) (by decide) he hpl
end
end Cp
/-! Df: a sign in a text; comprehensions that map and pick. -/
namespace Cp
open PySem L2
def gInS (neg : Bool) (a b : PyData) : Option Bool := match a, b with
  | .str x, .str z => (match x.cps.toList with
    | [c] => some (if neg then !decide (c ∈ z.cps.toList) else decide (c ∈ z.cps.toList))
    | _ => none)
  | _, _ => none
section
variable {X : Cx} {C : Cn} {a b : Expr} {ma mb : Ev} {pos : Pos} {k : Nat}
theorem one_sign {x : Str} {c : Nat} (h : x.cps.toList = [c]) : x = ⟨#[c]⟩ := by
  obtain ⟨⟨l⟩⟩ := x
  simp only at h
  subst h; rfl
theorem gInS_ok : CmpOk C rInS (gInS false) := by
  intro a b k v u μ F H st Q s va vb e q
  unfold gInS at e
  split at e
  · rename_i x z
    split at e
    · rename_i c hc
      cases e
      have ev := va.str
      have eu := vb.str
      subst ev eu
      exact ⟨c, z, by rw [one_sign hc], rfl, q⟩
    · cases e
  · cases e
theorem gNotInS_ok : CmpOk C rNotInS (gInS true) := by
  intro a b k v u μ F H st Q s va vb e q
  unfold gInS at e
  split at e
  · rename_i x z
    split at e
    · rename_i c hc
      cases e
      have ev := va.str
      have eu := vb.str
      subst ev eu
      exact ⟨c, z, by rw [one_sign hc], rfl, q⟩
    · cases e
  · cases e
theorem v_sIn (ha : PE X a (tM C ma)) (hb : PE X b (tM C mb)) (hm : behindInMarks .In b = false) : PE X (.Compare a [.In] [b] pos) (tM C (bV (mCmp (gInS false) ma mb))) := s_cmp op_inS gInS_ok ha hb hm
theorem v_sNotIn (ha : PE X a (tM C ma)) (hb : PE X b (tM C mb)) (hm : behindInMarks .NotIn b = false) : PE X (.Compare a [.NotIn] [b] pos) (tM C (bV (mCmp (gInS true) ma mb))) := s_cmp op_notInS gNotInS_ok ha hb hm
theorem t_sIn (ha : PE X a (tM C ma)) (hb : PE X b (tM C mb)) (hm : behindInMarks .In b = false) : PT X (.Compare a [.In] [b] pos) (tT C (mCmp (gInS false) ma mb)) := s_cmpT op_inS gInS_ok ha hb hm
theorem t_sNotIn (ha : PE X a (tM C ma)) (hb : PE X b (tM C mb)) (hm : behindInMarks .NotIn b = false) : PT X (.Compare a [.NotIn] [b] pos) (tT C (mCmp (gInS true) ma mb)) := s_cmpT op_notInS gNotInS_ok ha hb hm
end
/-! ### comprehensions whose body turns nothing -/
section
variable {E : Er → Sto → Prop} {st : Sto} {ρ : En} {g g1 : Gm} {tt tt1 : En → Sto → Res Bool} {te : Ev} {all : List PyData} {P : List PyData → Sto → Prop}
theorem filter_take_succ {α : Type} {l : List α} {i : Nat} {x : α} (h : l[i]? = some x) (p : α → Bool) : (l.take (i + 1)).filter p = (l.take i).filter p ++ if p x then [x] else [] := by
  rw [List.take_succ, h, List.filter_append]
  simp only [Option.toList_some, List.filter_cons, List.filter_nil]
theorem lc_pick (sel : PyData → Bool) (f : PyData → PyData) {ds : List PyData}
    (hs : ∀ d ∈ ds, WVe noE (g (.d d) ρ st) fun ρ1 s1 => WVe noE (tt ρ1 s1) fun k s2 => k = sel d ∧ (if k = true then WVe noE (te ρ1 s2) fun r s3 => frz r = .d (f d) ∧ s3 = st else s2 = st))
    (hl : ds.length ≤ sizeLine) (h : P ((ds.filter sel).map f) st) : WVe E (lcGo g tt te none all ρ ds st []) P := by
  refine lcGo_by (I := fun i s a => s = st ∧ a = ((ds.take i).filter sel).map f) ds 0 [] ⟨rfl, rfl⟩ (fun _ _ _ _ => trivial) ?_ ?_
  · rintro i d s a hd ⟨rfl, ha⟩
    rw [Nat.zero_add] at ha ⊢
    have hi : i < ds.length := (List.getElem?_eq_some_iff.mp hd).1
    refine WV_mono (hs d (List.mem_of_getElem? hd)) fun ρ1 s1 h1 => WV_mono h1 fun k s2 h2 => ?_
    obtain ⟨rfl, h2⟩ := h2
    rw [filter_take_succ hd]
    cases q : sel d with
    | true =>
      rw [q] at h2
      simp only [if_true] at h2 ⊢
      refine WV_mono h2 fun r s3 h3 => ⟨f d, h3.1, ?_, h3.2, by rw [ha, List.map_append]; rfl⟩
      have h4 : a.length ≤ i := by
        rw [ha, List.length_map]
        exact Nat.le_trans (List.length_filter_le _ _) (by rw [List.length_take]; omega)
      omega
    | false =>
      rw [q] at h2
      simp only [Bool.false_eq_true, if_false] at h2 ⊢
      exact ⟨h2, by rw [ha]; simp⟩
  · rintro s a ⟨rfl, ha⟩
    rw [ha, Nat.zero_add, List.take_length]
    exact h
theorem lc_map (f : PyData → PyData) {ds : List PyData} (hs : ∀ d ∈ ds, WVe noE (g (.d d) ρ st) fun ρ1 s1 => WVe noE (te ρ1 s1) fun r s3 => frz r = .d (f d) ∧ s3 = st) (hl : ds.length ≤ sizeLine) (h : P (ds.map f) st) :
    WVe E (lcGo g ttY te none all ρ ds st []) P := by
  refine lc_pick (fun _ => true) f (fun d hd => WV_mono (hs d hd) fun ρ1 s1 h1 => ?_) hl (by rw [List.filter_eq_self.mpr (fun _ _ => rfl)]; exact h)
  rw [W_ttY]
  exact ⟨rfl, by rw [if_pos rfl]; exact h1⟩
end
end Cp
/-! Pg: policies as a Lean type, the laws' drawn policies. -/
namespace Cp
open PySem L2
noncomputable def sbP_span : Sv := (sSeq (sAsg (gNm 2) (mV (mCall semU_next (aCons (mVc (mN 0)) (aCons (mV (mBin fAdd (mN 1) (mK (.int 1)))) aNil))))) (sRet (mTup (aCons (mV (mN 2)) (aCons (mV (mBin fAdd (mN 2) (mCall semU_next (aCons (mVc (mN 0)) (aCons (mV (mCal (gII (fun i j => if j < i then j else i)) (aCons (mV (mK (.int 4))) (aCons (mV (mBin fAdd (mBin (fI (fun _ _ => true) fun i j => i - j) (mN 1) (mN 2)) (mK (.int 1)))) aNil)))) aNil))))) aNil)))))
noncomputable def semP_span : Fs := bodyF 3 2 sbP_span
noncomputable def sbP_call : Sv := (sSeq (sPar [3, 4] (aCons (mV (mCall semU_next (aCons (mVc (mN 0)) (aCons (mV (mK (.int 5))) aNil)))) (aCons (mV (bV (mCmp gEq (mCall semU_next (aCons (mVc (mN 0)) (aCons (mV (mK (.int 4))) aNil))) (mK (.int 0))))) aNil))) (sSeq (sAsg (gNm 5) (mV (eIf (mCmp gNe (mN 3) (mK (.int 3))) (mCall semP_span (aCons (mVc (mN 0)) (aCons (mV (mN 2)) aNil))) (mK .none)))) (sSeq (sAsg (gNm 6) (mV (eIf (mCmp (gIn false) (mN 3) (mTup (aCons (mV (mK (.int 1))) (aCons (mV (mK (.int 2))) (aCons (mV (mK (.int 3))) aNil))))) (mCall semP_span (aCons (mVc (mN 0)) (aCons (mV (mN 2)) aNil))) (mK .none)))) (sRet (mTup (aCons (mV (mK (.str "call"))) (aCons (mV (mN 1)) (aCons (mV (mN 5)) (aCons (mV (mN 6)) (aCons (mV (mN 4)) aNil))))))))))
noncomputable def semP_call : Fs := bodyF 7 3 sbP_call
noncomputable def sbP_label : Sv := (sSeq (sAsg (gPl (mN 0) (mK (.int 1))) (mV (mBin fAdd (mBin fIx (mN 0) (mK (.int 1))) (mK (.int 1))))) (sRet (mBin fAdd (mBin fAdd (mBin fIx (mN 0) (mK (.int 2))) (mBin fIx (mK (.str "abcdefghijklmnopqrstuvwxyz0123456789xyz0")) (mBin (fI (fun _ _ => true) fun i j => i - j) (mBin fIx (mN 0) (mK (.int 1))) (mK (.int 1))))) (mBin fMulA (mK (.str "q")) (mCal (g1 fInt) (aCons (mV (bV (mCmp (gI fun i j => decide (j < i)) (mBin fIx (mN 0) (mK (.int 1))) (mK (.int 36))))) aNil))))))
noncomputable def semP_label : Fs := bodyF 1 1 sbP_label
noncomputable def sbP_grown (sem : Fs) : Sv := (sSeq (sAsg (gPl (mN 1) (mK (.int 0))) (mV (mBin (fI (fun _ _ => true) fun i j => i - j) (mBin fIx (mN 1) (mK (.int 0))) (mK (.int 1))))) (sSeq (sAsg (gNm 4) (mV (mK (.str "call")))) (sSeq (sIf (bAnd (mCmp (gI fun i j => decide (j < i)) (mBin fIx (mN 1) (mK (.int 0))) (mK (.int 0))) (mCmp (gI fun i j => decide (j < i)) (mN 3) (mK (.int 0)))) (sSeq (sAsg (gNm 5) (mV (mLst (aCons (mV (mK (.str "call"))) (aCons (mV (mK (.str "timeout"))) (aCons (mV (mK (.str "retry"))) (aCons (mV (mK (.str "wait"))) (aCons (mV (mK (.str "timeout"))) aNil)))))))) (sSeq (sIf (mCmp (gI fun i j => decide (j < i)) (mBin fIx (mN 1) (mK (.int 0))) (mK (.int 1))) (sAsg (gNm 5) (mV (mBin fAdd (mN 5) (mLst (aCons (mV (mK (.str "then"))) (aCons (mV (mK (.str "fallback"))) (aCons (mV (mK (.str "race"))) (aCons (mV (mK (.str "hedge"))) (aCons (mV (mK (.str "both"))) (aCons (mV (mK (.str "fallback"))) (aCons (mV (mK (.str "race"))) (aCons (mV (mK (.str "hedge"))) aNil)))))))))))) sNil) (sAsg (gNm 4) (mV (mCall semU_of (aCons (mVc (mN 0)) (aCons (mV (mN 5)) aNil))))))) sNil) (sSeq (sIf (mCmp gEq (mN 4) (mK (.str "call"))) (sRet (mCall semP_call (aCons (mVc (mN 0)) (aCons (mV (mCall semP_label (aCons (mVc (mN 1)) aNil))) (aCons (mV (mN 2)) aNil))))) sNil) (sSeq (sIf (mCmp gEq (mN 4) (mK (.str "wait"))) (sRet (mTup (aCons (mV (mK (.str "wait"))) (aCons (mV (mCall semU_next (aCons (mVc (mN 0)) (aCons (mV (mBin fAdd (mN 2) (mK (.int 1)))) aNil)))) aNil)))) sNil) (sSeq (sAsg (gNm 6) (mV (eIf (mCmp gEq (mCall semU_next (aCons (mVc (mN 0)) (aCons (mV (mK (.int 9))) aNil))) (mK (.int 0))) (mK .none) (mCall semU_next (aCons (mVc (mN 0)) (aCons (mV (mBin fAdd (mN 2) (mK (.int 2)))) aNil)))))) (sSeq (sIf (mCmp gEq (mN 4) (mK (.str "retry"))) (sSeq (sAsg (gNm 7) (mV (mCal (g1 fTuple) (aCons (mV (mLc (iRg1 (aCons (mV (mCall semU_of (aCons (mVc (mN 0)) (aCons (mV (mLst (aCons (mV (mK (.int 1))) (aCons (mV (mK (.int 1))) (aCons (mV (mK (.int 2))) (aCons (mV (mK (.int 0))) aNil)))))) aNil)))) aNil)) (gNm 10) ttY (mCall semU_next (aCons (mVc (mN 0)) (aCons (mV (mK (.int 3))) aNil))) [10])) aNil)))) (sRet (mTup (aCons (mV (mK (.str "retry"))) (aCons (mV (mN 7)) (aCons (mV (mCall sem (aCons (mVc (mN 0)) (aCons (mVc (mN 1)) (aCons (mV (mN 2)) (aCons (mV (mBin (fI (fun _ _ => true) fun i j => i - j) (mN 3) (mK (.int 1)))) aNil)))))) aNil)))))) sNil) (sSeq (sIf (mCmp gEq (mN 4) (mK (.str "timeout"))) (sRet (mTup (aCons (mV (mK (.str "timeout"))) (aCons (mV (mN 6)) (aCons (mV (mCall sem (aCons (mVc (mN 0)) (aCons (mVc (mN 1)) (aCons (mV (mN 2)) (aCons (mV (mBin (fI (fun _ _ => true) fun i j => i - j) (mN 3) (mK (.int 1)))) aNil)))))) aNil))))) sNil) (sSeq (sAsg (gPl (mN 1) (mK (.int 0))) (mV (mBin (fI (fun _ _ => true) fun i j => i - j) (mBin fIx (mN 1) (mK (.int 0))) (mK (.int 1))))) (sSeq (sAsg (gNm 8) (mV (mCall sem (aCons (mVc (mN 0)) (aCons (mVc (mN 1)) (aCons (mV (mN 2)) (aCons (mV (mBin (fI (fun _ _ => true) fun i j => i - j) (mN 3) (mK (.int 1)))) aNil))))))) (sSeq (sAsg (gPl (mN 1) (mK (.int 0))) (mV (mBin fAdd (mBin fIx (mN 1) (mK (.int 0))) (mK (.int 1))))) (sSeq (sAsg (gNm 9) (mV (mCall sem (aCons (mVc (mN 0)) (aCons (mVc (mN 1)) (aCons (mV (mN 2)) (aCons (mV (mBin (fI (fun _ _ => true) fun i j => i - j) (mN 3) (mK (.int 1)))) aNil))))))) (sSeq (sIf (mCmp (gIn false) (mN 4) (mTup (aCons (mV (mK (.str "then"))) (aCons (mV (mK (.str "both"))) aNil)))) (sRet (mTup (aCons (mV (mN 4)) (aCons (mV (mN 8)) (aCons (mV (mN 9)) aNil))))) sNil) (sRet (mTup (aCons (mV (mN 4)) (aCons (mV (mN 6)) (aCons (mV (mN 8)) (aCons (mV (mN 9)) aNil)))))))))))))))))))
noncomputable def semP_grown : Nat → Fs
  | 0 => fun _ _ => .no
  | n + 1 => bodyF 11 4 (sbP_grown (semP_grown n))
noncomputable def sbP_policy : Sv := (sRet (mCall (semP_grown 12) (aCons (mVc (mN 0)) (aCons (mVc (mLst (aCons (mV (mN 1)) (aCons (mV (mK (.int 0))) (aCons (mV (mCall semU_of (aCons (mVc (mN 0)) (aCons (mV (mLst (aCons (mV (mK (.str ""))) (aCons (mV (mK (.str "c"))) (aCons (mV (mK (.str "call"))) aNil))))) aNil)))) aNil))))) (aCons (mV (mN 2)) (aCons (mV (mK (.int 8))) aNil))))))
noncomputable def semP_policy : Fs := bodyF 3 3 sbP_policy
noncomputable def sbP_linner : Sv := (sRet (mDGet2 (mDct [((mK (.str "call")), (mTup aNil)), ((mK (.str "wait")), (mTup aNil)), ((mK (.str "retry")), (mSl (mN 0) (oSome (mK (.int 2))) oNone)), ((mK (.str "timeout")), (mSl (mN 0) (oSome (mK (.int 2))) oNone))]) (mBin fIx (mN 0) (mK (.int 0))) (mSl (mN 0) (oSome (mNeg (mK (.int 2)))) oNone)))
noncomputable def semP_linner : Fs := bodyF 1 1 sbP_linner
noncomputable def sbP_inner : Sv := (sSeq (sIf (mCmp (gIn false) (mBin fIx (mN 0) (mK (.int 0))) (mTup (aCons (mV (mK (.str "call"))) (aCons (mV (mK (.str "wait"))) aNil)))) (sRet (mTup aNil)) sNil) (sRet (eIf (mCmp (gIn false) (mBin fIx (mN 0) (mK (.int 0))) (mTup (aCons (mV (mK (.str "then"))) (aCons (mV (mK (.str "both"))) aNil)))) (mSl (mN 0) (oSome (mK (.int 1))) oNone) (mSl (mN 0) (oSome (mK (.int 2))) oNone))))
noncomputable def semP_inner : Fs := bodyF 1 1 sbP_inner
/-! ### texts written out -/
theorem ofS_inj {a b : String} (h : Str.ofString a = Str.ofString b) : a = b := by
  rw [Str.ofString_eq_toList, Str.ofString_eq_toList] at h
  have h1 : (a.toList.map Char.toNat).toArray = (b.toList.map Char.toNat).toArray := congrArg Str.cps h
  have h2 : a.toList.map Char.toNat = b.toList.map Char.toNat := by simpa using h1
  have inj : ∀ (x y : List Char), x.map Char.toNat = y.map Char.toNat → x = y := by
    intro x
    induction x with
    | nil => intro y h; cases y with
      | nil => rfl
      | cons _ _ => cases h
    | cons c x ih => intro y h; cases y with
      | nil => cases h
      | cons d y =>
        rw [List.map_cons, List.map_cons] at h
        injection h with e1 e2
        have : c = d := Char.ext (UInt32.toNat_inj.mp e1)
        rw [this, ih y e2]
  exact String.toList_inj.mp (inj _ _ h2)
@[simp] theorem ofS_eq (a b : String) : (Str.ofString a = Str.ofString b) = (a = b) := propext ⟨ofS_inj, fun h => by rw [h]⟩
@[simp] theorem ofS_beq (a b : String) : (Str.ofString a == Str.ofString b) = decide (a = b) := by
  by_cases h : a = b
  · subst h; simp
  · have : ¬ Str.ofString a = Str.ofString b := fun z => h (ofS_inj z)
    simp [h]
theorem sgn_ofS (s : String) : Sgn (Str.ofString s) := (Txs.ofString (n := s.length) s (Nat.le_refl _)).2
@[simp] theorem gEq_lit (a b : String) : gEq (.str (Str.ofString a)) (.str (Str.ofString b)) = some (decide (a = b)) := by
  rw [gEq_str (sgn_ofS a) (sgn_ofS b)]; simp
@[simp] theorem gNe_lit (a b : String) : gNe (.str (Str.ofString a)) (.str (Str.ofString b)) = some (!decide (a = b)) := by
  rw [gNe_str (sgn_ofS a) (sgn_ofS b)]; simp
@[simp] theorem gNe_int (x y : Int) : gNe (.int x) (.int y) = some (!decide (x = y)) := by
  have h := gEq_int x y
  unfold gEq at h
  unfold gNe
  split at h
  · rename_i hh
    rw [if_pos hh]
    injection h with h
    rw [h]
  · cases h
/-! ### policies -/
inductive Two where
  | thn | both
inductive Num where
  | fall | race | hedge
def Two.s : Two → String
  | .thn => "then"
  | .both => "both"
def Num.s : Num → String
  | .fall => "fallback"
  | .race => "race"
  | .hedge => "hedge"
abbrev Span := Option (Int × Int)
inductive Pol where
  | call (l : Str) (g b : Span) (h : Bool)
  | wait (n : Int)
  | two (k : Two) (a b : Pol)
  | num (k : Num) (n : Option Int) (a b : Pol)
  | retry (ps : List Int) (a : Pol)
  | tmo (n : Option Int) (a : Pol)
def spD : Span → PyData
  | none => .none
  | some p => .tuple [.int p.1, .int p.2]
def nuD : Option Int → PyData
  | none => .none
  | some n => .int n
def Pol.pd : Pol → PyData
  | .call l g b h => .tuple [.str "call", .str l, spD g, spD b, .bool h]
  | .wait n => .tuple [.str "wait", .int n]
  | .two k a b => .tuple [.str k.s, a.pd, b.pd]
  | .num k n a b => .tuple [.str k.s, nuD n, a.pd, b.pd]
  | .retry ps a => .tuple [.str "retry", .tuple (ps.map PyData.int), a.pd]
  | .tmo n a => .tuple [.str "timeout", nuD n, a.pd]
def Pol.inn : Pol → List Pol
  | .call _ _ _ _ => []
  | .wait _ => []
  | .two _ a b => [a, b]
  | .num _ _ a b => [a, b]
  | .retry _ a => [a]
  | .tmo _ a => [a]
def Pol.kind : Pol → String
  | .call _ _ _ _ => "call"
  | .wait _ => "wait"
  | .two k _ _ => k.s
  | .num k _ _ _ => k.s
  | .retry _ _ => "retry"
  | .tmo _ _ => "timeout"
def Pol.size : Pol → Nat
  | .call _ _ _ _ => 1
  | .wait _ => 1
  | .two _ a b => 1 + a.size + b.size
  | .num _ _ a b => 1 + a.size + b.size
  | .retry _ a => 1 + a.size
  | .tmo _ a => 1 + a.size
def Pol.depth : Pol → Nat
  | .call _ _ _ _ => 1
  | .wait _ => 1
  | .two _ a b => 1 + max a.depth b.depth
  | .num _ _ a b => 1 + max a.depth b.depth
  | .retry _ a => 1 + a.depth
  | .tmo _ a => 1 + a.depth
/-- the labels of the calls, from left to right -/
def Pol.labs : Pol → List Str
  | .call l _ _ _ => [l]
  | .wait _ => []
  | .two _ a b => a.labs ++ b.labs
  | .num _ _ a b => a.labs ++ b.labs
  | .retry _ a => a.labs
  | .tmo _ a => a.labs
theorem Pol.size_pos : ∀ p : Pol, 1 ≤ p.size
  | .call _ _ _ _ => Nat.le_refl _
  | .wait _ => Nat.le_refl _
  | .two _ _ _ => by unfold Pol.size; omega
  | .num _ _ _ _ => by unfold Pol.size; omega
  | .retry _ _ => by unfold Pol.size; omega
  | .tmo _ _ => by unfold Pol.size; omega
theorem Pol.labs_le : ∀ p : Pol, p.labs.length ≤ p.size
  | .call _ _ _ _ => Nat.le_refl _
  | .wait _ => Nat.zero_le _
  | .two _ a b => by have := a.labs_le; have := b.labs_le; unfold Pol.size Pol.labs; rw [List.length_append]; omega
  | .num _ _ a b => by have := a.labs_le; have := b.labs_le; unfold Pol.size Pol.labs; rw [List.length_append]; omega
  | .retry _ a => by have := a.labs_le; unfold Pol.size Pol.labs; omega
  | .tmo _ a => by have := a.labs_le; unfold Pol.size Pol.labs; omega
/-- numbers as drawn: spans up to L, numbers up to L + 1, at most two pauses up to 2 -/
def spB (L : Int) : Span → Prop
  | none => True
  | some p => 0 ≤ p.1 ∧ p.1 ≤ p.2 ∧ p.2 ≤ L
def nuB (L : Int) : Option Int → Prop
  | none => True
  | some n => 0 ≤ n ∧ n ≤ L
def Pol.Bnd (L : Int) : Pol → Prop
  | .call _ g b h => spB L g ∧ spB L b ∧ (g = none → b ≠ none)
  | .wait n => 0 ≤ n ∧ n ≤ L
  | .two _ a b => a.Bnd L ∧ b.Bnd L
  | .num _ n a b => nuB (L + 1) n ∧ a.Bnd L ∧ b.Bnd L
  | .retry ps a => (ps.length ≤ 2 ∧ ∀ x ∈ ps, 0 ≤ x ∧ x ≤ 2) ∧ a.Bnd L
  | .tmo n a => nuB (L + 1) n ∧ a.Bnd L
def abcC (k : Nat) : Nat := (Str.ofString "abcdefghijklmnopqrstuvwxyz0123456789xyz0").cps.toList.getD k 0
/-- the k-th label of a stem -/
def labK (stem : Str) (k : Nat) : Str := stem ++ (⟨#[abcC (k - 1)]⟩ : Str) ++ Txt.mul (Str.ofString "q") (if 36 < k then 1 else 0)
def Pol.Lab (stem : Str) (k : Nat) (p : Pol) : Prop := p.labs = (List.range p.labs.length).map fun x => labK stem (k + x + 1)
theorem lab_app {stem : Str} {k : Nat} {a b : List Str} (ha : a = (List.range a.length).map fun x => labK stem (k + x + 1)) (hb : b = (List.range b.length).map fun x => labK stem (k + a.length + x + 1)) :
    a ++ b = (List.range (a ++ b).length).map fun x => labK stem (k + x + 1) := by
  have e : ((fun x => labK stem (k + x + 1)) ∘ fun x => a.length + x) = fun x => labK stem (k + a.length + x + 1) := by
    funext x
    show labK stem (k + (a.length + x) + 1) = labK stem (k + a.length + x + 1)
    congr 1; omega
  rw [List.length_append, List.range_add, List.map_append, List.map_map, e, ← ha, ← hb]
/-! ### two cells of a store -/
/-- the store with u at i and l at j -/
def s2 (st : Sto) (i j : Nat) (u l : Cl) : Sto := (st.set i u).set j l
structure Ij (st : Sto) (i j : Nat) : Prop where
  ne : i ≠ j
  hi : i < st.length
  hj : j < st.length
section
variable {st : Sto} {i j : Nat} {u u' l l' : Cl}
theorem s2_i (h : Ij st i j) : (s2 st i j u l)[i]? = some u := by
  unfold s2; rw [List.getElem?_set_ne (Ne.symm h.ne), List.getElem?_set_self h.hi]
theorem s2_j (h : Ij st i j) : (s2 st i j u l)[j]? = some l := by
  unfold s2; rw [List.getElem?_set_self (by simpa using h.hj)]
theorem s2_si (h : Ij st i j) : (s2 st i j u l).set i u' = s2 st i j u' l := by
  unfold s2; rw [List.set_comm _ _ (Ne.symm h.ne), List.set_set]
theorem s2_sj (h : Ij st i j) : (s2 st i j u l).set j l' = s2 st i j u l' := by
  unfold s2; rw [List.set_set]
theorem s2_len : (s2 st i j u l).length = st.length := by unfold s2; simp
theorem s2_tk : (s2 st i j u l).take st.length = s2 st i j u l := List.take_of_length_le (by rw [s2_len]; exact Nat.le_refl _)
theorem s2_s2 (h : Ij st i j) : s2 (s2 st i j u l) i j u' l' = s2 st i j u' l' := by
  show ((s2 st i j u l).set i u').set j l' = _
  rw [s2_si h, s2_sj h]
theorem s2_ij (h : Ij st i j) : Ij (s2 st i j u l) i j := ⟨h.ne, by rw [s2_len]; exact h.hi, by rw [s2_len]; exact h.hj⟩
theorem set_selfq {α : Type} {l : List α} {i : Nat} {x : α} (h : l[i]? = some x) : l.set i x = l := by
  apply List.ext_getElem?
  intro k
  by_cases e : i = k
  · subst e; rw [List.getElem?_set_self (List.getElem?_eq_some_iff.mp h).1, h]
  · rw [List.getElem?_set_ne e]
theorem s2_self (h1 : st[i]? = some u) (h2 : st[j]? = some l) : s2 st i j u l = st := by
  unfold s2
  rw [set_selfq h1, set_selfq h2]
end
end Cp
/-! Pw: the laws' drawn policies, walked. -/
namespace Cp
open PySem L2
section
variable {E : Er → Sto → Prop} {st : Sto} {P : Rv → Sto → Prop}
theorem wv_E {α : Type} {E : Er → Sto → Prop} {r : Res α} {P : α → Sto → Prop} (h : WVe noE r P) : WVe E r P := by
  cases r with
  | ok a s => exact h
  | er e s => exact False.elim h
  | no => exact h
/-! ### inner -/
theorem szl : sizeLine = 16777216 := rfl
theorem inn_pd (p : Pol) : ∃ r, p.pd = .tuple (.str (Str.ofString p.kind) :: r) := by
  cases p <;> exact ⟨_, rfl⟩
@[simp] theorem frz_m (k : List (PyData × PyData)) : frz (.n (.m k)) = .d (.dict k) := rfl
theorem cut3 (a b c : PyData) : cutD [a, b, c] (some 2) none = [c] := rfl
theorem cut4 (a b c d : PyData) : cutD [a, b, c, d] (some 2) none = [c, d] := rfl
theorem cut4n (a b c d : PyData) : cutD [a, b, c, d] (some (-2)) none = [c, d] := rfl
theorem cut3n (a b c : PyData) : cutD [a, b, c] (some (-2)) none = [b, c] := rfl
theorem cut31 (a b c : PyData) : cutD [a, b, c] (some 1) none = [b, c] := rfl
theorem w_linner {p : Pol} (h : P (.d (.tuple (p.inn.map Pol.pd))) st) : WVe E (semP_linner [.d p.pd] st) P := by
  unfold semP_linner sbP_linner
  rw [W_body]
  cases p with
  | call l g b hh => simp [Pol.pd, Pol.inn, keysD, keyD, lookK, keyB]; exact h
  | wait n => simp [Pol.pd, Pol.inn, keysD, keyD, lookK, keyB]; exact h
  | two k a b => cases k <;> simp [Pol.pd, Pol.inn, Two.s, keysD, keyD, lookK, keyB, cut3n] <;> exact h
  | num k n a b => cases k <;> simp [Pol.pd, Pol.inn, Num.s, keysD, keyD, lookK, keyB, cut4n] <;> exact h
  | retry ps a => simp [Pol.pd, Pol.inn, keysD, keyD, lookK, keyB, cut3]; exact h
  | tmo n a => simp [Pol.pd, Pol.inn, keysD, keyD, lookK, keyB, cut3]; exact h
theorem w_inner {p : Pol} (h : P (.d (.tuple (p.inn.map Pol.pd))) st) : WVe E (semP_inner [.d p.pd] st) P := by
  unfold semP_inner sbP_inner
  rw [W_body]
  cases p with
  | call l g b hh => simp [Pol.pd, Pol.inn, gIn, itemsD, flatD, eqF, szl]; exact h
  | wait n => simp [Pol.pd, Pol.inn, gIn, itemsD, flatD, eqF, szl]; exact h
  | two k a b => cases k <;> simp [Pol.pd, Pol.inn, Two.s, gIn, itemsD, flatD, eqF, cut31, szl] <;> exact h
  | num k n a b => cases k <;> simp [Pol.pd, Pol.inn, Num.s, gIn, itemsD, flatD, eqF, cut4, szl] <;> exact h
  | retry ps a => simp [Pol.pd, Pol.inn, gIn, itemsD, flatD, eqF, cut3, szl]; exact h
  | tmo n a => simp [Pol.pd, Pol.inn, gIn, itemsD, flatD, eqF, cut3, szl]; exact h
/-! ### what is drawn -/
variable {i j : Nat} {u : Cl} {m L : Int}
theorem w_span (hu : st[i]? = some u) (hU : Urn m u) (hm : m < 2 ^ 190) (hL : 0 ≤ L) (hL2 : L < 2 ^ 100) (h : ∀ (p : Int × Int) u', spB L (some p) → Urn (m + 2) u' → P (.d (spD (some p))) (st.set i u')) : WVe noE (semP_span [.c i, .d (.int L)] st) P := by
  unfold semP_span sbP_span
  rw [W_body]
  have hi : i < st.length := (List.getElem?_eq_some_iff.mp hu).1
  have hset : ∀ c, (st.set i c)[i]? = some c := fun c => List.getElem?_set_self hi
  simp
  refine w_next hu hU (by omega) (by omega) (by omega) fun low u1 a1 b1 hU1 => ?_
  simp
  refine w_next (hset u1) hU1 (by omega) (by split <;> omega) (by split <;> omega) fun r u2 a2 b2 hU2 => ?_
  have hs : sizeLine = 16777216 := rfl
  simp
  refine ⟨by omega, h (low, low + r) u2 ⟨a1, by show low ≤ low + r; omega, ?_⟩ (hU2.mono (by omega))⟩
  show low + r ≤ L
  split at b2 <;> omega
theorem w_call {l : Str} (hu : st[i]? = some u) (hU : Urn m u) (hm : m < 2 ^ 189) (hL : 0 ≤ L) (hL2 : L < 2 ^ 100) (h : ∀ g b hh u', spB L g → spB L b → (g = none → b ≠ none) → Urn (m + 6) u' → P (.d (Pol.call l g b hh).pd) (st.set i u')) : WVe noE (semP_call [.c i, .d (.str l), .d (.int L)] st) P := by
  unfold semP_call sbP_call
  rw [W_body]
  have hi : i < st.length := (List.getElem?_eq_some_iff.mp hu).1
  have hset : ∀ c, (st.set i c)[i]? = some c := fun c => List.getElem?_set_self hi
  have hs : sizeLine = 16777216 := rfl
  simp
  refine w_next hu hU (by omega) (by omega) (by omega) fun way u1 a1 b1 hU1 => ?_
  simp
  refine w_next (hset u1) hU1 (by omega) (by omega) (by omega) fun hg u2 a2 b2 hU2 => ?_
  simp [szl]
  have gin : gIn false (.int way) (.tuple [.int 1, .int 2, .int 3]) = some (decide (way = 1 ∨ way = 2 ∨ way = 3)) := by
    simp [gIn, itemsD, flatD, eqF]
    by_cases c1 : way = 1
    · subst c1; rfl
    · by_cases c2 : way = 2
      · subst c2; rfl
      · by_cases c3 : way = 3
        · subst c3; rfl
        · simp [c1, c2, c3]; omega
  rw [gin]
  split
  · rename_i h3
    subst h3
    simp
    refine w_span (hset u2) hU2 (by omega) hL hL2 fun p u3 hp hU3 => ?_
    simp [spD, szl]
    exact h none (some p) _ u3 trivial hp (by simp) (hU3.mono (by omega))
  · refine w_span (hset u2) hU2 (by omega) hL hL2 fun p u3 hp hU3 => ?_
    simp [spD, szl]
    split
    · refine w_span (hset u3) hU3 (by omega) hL hL2 fun q u4 hq hU4 => ?_
      simp [spD, szl]
      exact h (some p) (some q) _ u4 hp hq (by simp) (hU4.mono (by omega))
    · exact h (some p) none _ u3 hp trivial (by simp) (hU3.mono (by omega))
theorem abc_at {k : Nat} (hk : k < 40) : fIx (.str (Str.ofString "abcdefghijklmnopqrstuvwxyz0123456789xyz0")) (.int k) = some (.d (.str ⟨#[abcC k]⟩)) := by
  have hl : (Str.ofString "abcdefghijklmnopqrstuvwxyz0123456789xyz0").cps.toList.length = 40 := by decide +kernel
  show (if (Str.ofString "abcdefghijklmnopqrstuvwxyz0123456789xyz0").length ≤ sizeLine then (atI (Str.ofString "abcdefghijklmnopqrstuvwxyz0123456789xyz0").cps.toList k).map fun c => Rv.d (.str ⟨#[c]⟩) else none) = _
  unfold abcC
  rw [if_pos (by decide +kernel), atI_at rfl (by omega), List.getD_eq_getElem?_getD, List.getElem?_eq_getElem (by omega)]
  rfl
theorem w_label {a : Int} {k : Nat} {stem : Str} {j : Nat} (hj : st[j]? = some (.l [.int a, .int k, .str stem])) (hk : k < 40) (hl : stem.length ≤ 1000) (h : P (.d (.str (labK stem (k + 1)))) (st.set j (.l [.int a, .int (k + 1 : Nat), .str stem]))) : WVe noE (semP_label [.c j] st) P := by
  unfold semP_label sbP_label
  rw [W_body]
  have hi : j < st.length := (List.getElem?_eq_some_iff.mp hj).1
  have hset : ∀ c, (st.set j c)[j]? = some c := fun c => List.getElem?_set_self hi
  have e36 : ((36 : Int) < (k : Int) + 1) = (36 < k + 1) := propext (by omega)
  have q1 : (Str.ofString "q").length = 1 := by decide +kernel
  have l1 : (⟨#[abcC k]⟩ : Str).length = 1 := rfl
  have lm : (Txt.mul (Str.ofString "q") (if 36 < k + 1 then 1 else 0)).length ≤ 1 := by split <;> decide +kernel
  have e2 : labK stem (k + 1) = stem ++ (⟨#[abcC k]⟩ : Str) ++ Txt.mul (Str.ofString "q") (if 36 < k + 1 then 1 else 0) := rfl
  rw [e2] at h
  have eq : ((k + 1 : Nat) : Int) = (k : Int) + 1 := by omega
  rw [eq] at h
  have l2 : (stem ++ (⟨#[abcC k]⟩ : Str)).length = stem.length + 1 := by rw [strLen_append, l1]
  have c1 : stem.length + 1 ≤ 16777216 := by omega
  simp [hj, hset, szl, abc_at hk, e36, q1, l1, c1, l2]
  exact ⟨⟨by split <;> omega, by split <;> omega, by split <;> omega⟩, by omega, h⟩
theorem w_label_E {a : Int} {k : Nat} {stem : Str} {j : Nat} (hj : st[j]? = some (.l [.int a, .int k, .str stem])) (hk : k < 40) (hl : stem.length ≤ 1000) (h : P (.d (.str (labK stem (k + 1)))) (st.set j (.l [.int a, .int (k + 1 : Nat), .str stem]))) : WVe E (semP_label [.c j] st) P := wv_E (w_label hj hk hl h)
end
end Cp
/-! Pz: the laws' drawn policies, grown. -/
namespace Cp
open PySem L2
theorem seq_cut {E : Er → Sto → Prop} {x y : Sv} {ρ : En} {st : Sto} {N B C : En → Sto → Prop} {R : Rv → Sto → Prop} (I : En → Sto → Prop) (h1 : WSe E (x ρ st) I B C R) (h2 : ∀ ρ s, I ρ s → WSe E (y ρ s) N B C R) : WSe E (sSeq x y ρ st) N B C R := by
  unfold sSeq
  cases q : x ρ st with
  | nx ρ' s => rw [q] at h1; exact h2 _ _ h1
  | bk ρ' s => rw [q] at h1; exact h1
  | ct ρ' s => rw [q] at h1; exact h1
  | rt r s => rw [q] at h1; exact h1
  | er e s => rw [q] at h1; exact h1
  | no => rw [q] at h1; exact h1
/-- what is left: parts, labels made, stem -/
abbrev lft (a : Int) (k : Nat) (stem : Str) : Cl := .l [.int a, .int k, .str stem]
def KindOk (a dp : Int) (kd : String) : Prop := kd = "call" ∨ ((0 < a ∧ 0 < dp) ∧ (kd = "timeout" ∨ kd = "retry" ∨ kd = "wait" ∨ (1 < a ∧ (kd = "then" ∨ kd = "fallback" ∨ kd = "race" ∨ kd = "hedge" ∨ kd = "both"))))
section
variable {E : Er → Sto → Prop} {st : Sto} {P : Rv → Sto → Prop} {i j : Nat}
theorem w_grown : ∀ (f : Nat) {st : Sto} {P : Rv → Sto → Prop} {u : Cl} {m L dp a : Int} {k : Nat} {stem : Str}, Ij st i j → Urn m u → 1 ≤ a → a ≤ 60 → (k : Int) + a ≤ 40 → 0 ≤ L → L < 2 ^ 90 → 0 ≤ dp → dp < f → stem.length ≤ 100 → m + 8 * a < 2 ^ 180 →
    (∀ (p : Pol) (u' : Cl), p.Bnd L → (p.size : Int) ≤ a → (p.depth : Int) ≤ dp + 1 → p.Lab stem k → Urn (m + 8 * p.size) u' → P (.d p.pd) (s2 st i j u' (lft (a - p.size) (k + p.labs.length) stem))) →
    WVe noE (semP_grown f [.c i, .c j, .d (.int L), .d (.int dp)] (s2 st i j u (lft a k stem))) P
  | 0, _, _, _, _, _, _, _, _, _, _, _, _, _, _, _, _, hd, hf, _, _, _ => absurd hf (by omega)
  | f + 1, st, P, u, m, L, dp, a, k, stem, J, hU, a1, a60, ka, hL, hL2, hd, hf, hst, hm, h => by
    show WVe noE (bodyF 11 4 (sbP_grown (semP_grown f)) _ _) P
    unfold sbP_grown
    rw [W_body]
    refine ⟨rfl, ?_⟩
    refine seq_cut (fun ρ s => ρ = [some (.c i), some (.c j), some (.d (.int L)), some (.d (.int dp)), none, none, none, none, none, none, none] ∧ s = s2 st i j u (lft (a - 1) k stem)) (by simp [szl, s2_j J, s2_sj J]) ?_
    rintro ρ s ⟨rfl, rfl⟩
    refine seq_cut (fun ρ s => ρ = [some (.c i), some (.c j), some (.d (.int L)), some (.d (.int dp)), some (.d (.str "call")), none, none, none, none, none, none] ∧ s = s2 st i j u (lft (a - 1) k stem)) (by simp) ?_
    rintro ρ s ⟨rfl, rfl⟩
    refine seq_cut (fun ρ s => ∃ (kd : String) (x5 : Option Vl) (u' : Cl), ρ = [some (.c i), some (.c j), some (.d (.int L)), some (.d (.int dp)), some (.d (.str kd)), x5, none, none, none, none, none] ∧ s = s2 st i j u' (lft (a - 1) k stem) ∧ Urn (m + 1) u' ∧ KindOk (a - 1) dp kd) ?_ ?_
    · have fin : ∀ {xs : List PyData} {Q : Rv → Sto → Prop}, (∀ x ∈ xs, ∃ kd : String, x = .str (Str.ofString kd) ∧ KindOk (a - 1) dp kd) → xs ≠ [] → xs.length ≤ sizeLine → (∀ (kd : String) u', Urn (m + 1) u' → KindOk (a - 1) dp kd → Q (.d (.str (Str.ofString kd))) (s2 st i j u' (lft (a - 1) k stem))) →
          WVe noE (semU_of [.c i, .d (.list xs)] (s2 st i j u (lft (a - 1) k stem))) fun r s' => back (s2 st i j u (lft (a - 1) k stem)).length r s' Q := by
        intro xs Q hxs h0 hl hQ
        refine w_of (s2_i J) hU (by omega) h0 hl fun x u' hx hU' => ?_
        obtain ⟨kd, rfl, hk⟩ := hxs x hx
        rw [s2_si J, back_d, s2_len, s2_tk]
        exact hQ kd u' hU' hk
      simp [szl, s2_j J]
      split
      · split
        · split
          · refine fin (fun x hx => ?_) (by simp) (by decide) fun kd u' hU' hk => ⟨kd, rfl, u', rfl, hU', hk⟩
            simp at hx
            rcases hx with rfl | rfl | rfl | rfl | rfl | rfl | rfl | rfl | rfl | rfl | rfl | rfl | rfl <;> exact ⟨_, rfl, by unfold KindOk; simp; try omega⟩
          · refine fin (fun x hx => ?_) (by simp) (by decide) fun kd u' hU' hk => ⟨kd, rfl, u', rfl, hU', hk⟩
            simp at hx
            rcases hx with rfl | rfl | rfl | rfl | rfl <;> exact ⟨_, rfl, by unfold KindOk; simp; try omega⟩
        · exact ⟨u, rfl, hU.mono (by omega), .inl rfl⟩
      · exact ⟨u, rfl, hU.mono (by omega), .inl rfl⟩
    · rintro ρ s ⟨kd, x5, u', rfl, rfl, hU', hk⟩
      rcases hk with rfl | ⟨⟨ha0, hd0⟩, hk⟩
      · simp
        refine w_label (a := a - 1) (s2_j J) (by omega) (by omega) ?_
        rw [s2_sj J]
        simp [s2_len, s2_tk]
        refine w_call (s2_i J) hU' (by omega) hL (by omega) fun g b hh u2 hg hb hgb hU2 => ?_
        rw [s2_si J]
        simp [s2_len, s2_tk]
        have := h (Pol.call (labK stem (k + 1)) g b hh) u2 ⟨hg, hb, hgb⟩ (by show ((1 : Nat) : Int) ≤ a; omega) (by show ((1 : Nat) : Int) ≤ dp + 1; omega) rfl (hU2.mono (by show m + 1 + 6 ≤ m + 8 * ((1 : Nat) : Int); omega))
        exact this
      by_cases hw : kd = "wait"
      · subst hw
        simp
        refine w_next (s2_i J) hU' (by omega) (by omega) (by omega) fun n u2 n0 n1 hU2 => ?_
        rw [s2_si J]
        simp [s2_len, s2_tk, szl]
        have := h (Pol.wait n) u2 ⟨n0, by omega⟩ (by show ((1 : Nat) : Int) ≤ a; omega) (by show ((1 : Nat) : Int) ≤ dp + 1; omega) rfl (hU2.mono (by show m + 1 + 1 ≤ m + 8 * ((1 : Nat) : Int); omega))
        exact this
      have hc : kd ≠ "call" := by rcases hk with rfl | rfl | rfl | ⟨_, rfl | rfl | rfl | rfl | rfl⟩ <;> decide
      refine seq_cut (fun ρ s => ρ = [some (.c i), some (.c j), some (.d (.int L)), some (.d (.int dp)), some (.d (.str kd)), x5, none, none, none, none, none] ∧ s = s2 st i j u' (lft (a - 1) k stem)) (by simp [hc]) ?_
      rintro ρ s ⟨rfl, rfl⟩
      refine seq_cut (fun ρ s => ρ = [some (.c i), some (.c j), some (.d (.int L)), some (.d (.int dp)), some (.d (.str kd)), x5, none, none, none, none, none] ∧ s = s2 st i j u' (lft (a - 1) k stem)) (by simp [hw]) ?_
      rintro ρ s ⟨rfl, rfl⟩
      refine seq_cut (fun ρ s => ∃ (n : Option Int) (u3 : Cl), ρ = [some (.c i), some (.c j), some (.d (.int L)), some (.d (.int dp)), some (.d (.str kd)), x5, some (.d (nuD n)), none, none, none, none] ∧ s = s2 st i j u3 (lft (a - 1) k stem) ∧ Urn (m + 3) u3 ∧ nuB (L + 1) n) ?_ ?_
      · simp
        refine w_next (s2_i J) hU' (by omega) (by omega) (by omega) fun n9 u2 _ _ hU2 => ?_
        rw [s2_si J]
        simp [s2_len, s2_tk]
        split
        · exact ⟨none, rfl, u2, rfl, hU2.mono (by omega), trivial⟩
        · refine w_next (s2_i J) hU2 (by omega) (by omega) (by omega) fun n u3 n0 n1 hU3 => ?_
          rw [s2_si J]
          simp [s2_len, s2_tk]
          exact ⟨some n, rfl, u3, rfl, hU3.mono (by omega), n0, by omega⟩
      rintro ρ s ⟨n, u3, rfl, rfl, hU3, hn⟩
      rcases hk with rfl | rfl | rfl | ⟨ha1, hk⟩
      · simp
        refine w_grown f J hU3 (by omega) (by omega) (by omega) hL hL2 (by omega) (by omega) hst (by omega) fun p u4 hp hs hdp hlab hU4 => ?_
        simp [s2_len, s2_tk, szl]
        have := h (Pol.tmo n p) u4 ⟨hn, hp⟩ (by show ((1 + p.size : Nat) : Int) ≤ a; omega) (by show ((1 + p.depth : Nat) : Int) ≤ dp + 1; omega) hlab (hU4.mono (by show m + 3 + 8 * (p.size : Int) ≤ m + 8 * ((1 + p.size : Nat) : Int); omega))
        have e : a - ((Pol.tmo n p).size : Int) = a - 1 - (p.size : Int) := by show a - ((1 + p.size : Nat) : Int) = _; omega
        rw [e] at this
        exact this
      · refine seq_cut (fun _ _ => False) ?_ (fun _ _ z => z.elim)
        simp [szl]
        refine w_of (xs := [.int 1, .int 1, .int 2, .int 0]) (s2_i J) hU3 (by omega) (by simp) (by decide) fun x u4 hx hU4 => ?_
        rw [s2_si J]
        have hx' : ∃ c : Int, x = .int c ∧ 0 ≤ c ∧ c ≤ 2 := by
          simp at hx
          rcases hx with rfl | rfl | rfl <;> exact ⟨_, rfl, by decide, by decide⟩
        obtain ⟨c, rfl, c0, c2⟩ := hx'
        simp [s2_len, s2_tk]
        refine ⟨rOk_of2 (by decide) (by decide) (by omega) (by omega), ?_⟩
        refine lcGo_by (I := fun x s acc => ∃ (ps : List Int) (u5 : Cl), acc = ps.map PyData.int ∧ ps.length = x ∧ (∀ y ∈ ps, 0 ≤ y ∧ y ≤ 2) ∧ s = s2 st i j u5 (lft (a - 1) k stem) ∧ Urn (m + 4 + x) u5) _ 0 [] ⟨[], u4, rfl, rfl, fun _ z => (nomatch z), rfl, hU4.mono (by omega)⟩ (fun _ _ _ _ => trivial) ?_ ?_
        · rintro x d s acc hd' ⟨ps, u5, rfl, hl, hps, rfl, hU5⟩
          have hx2 : x < 2 := by
            have := (List.getElem?_eq_some_iff.mp hd').1
            have e : (rngD 0 c).length = c.toNat := by unfold rngD; simp
            omega
          simp [wipeE]
          refine w_next (s2_i J) hU5 (by omega) (by omega) (by omega) fun y u6 y0 y1 hU6 => ?_
          rw [s2_si J]
          simp [s2_len, s2_tk, szl]
          refine ⟨by omega, ps ++ [y], by simp, by simp; omega, fun z hz => ?_, u6, rfl, hU6.mono (by omega)⟩
          rcases List.mem_append.mp hz with hz | hz
          · exact hps z hz
          · simp at hz; omega
        · rintro s acc ⟨ps, u5, rfl, hl, hps, rfl, hU5⟩
          have hlen : ps.length ≤ 2 := by
            have e : (rngD 0 c).length = c.toNat := by unfold rngD; simp
            omega
          have hU5' : Urn (m + 6) u5 := hU5.mono (by omega)
          refine w_grown f J hU5' (by omega) (by omega) (by omega) hL hL2 (by omega) (by omega) hst (by omega) fun p u7 hp hs hdp hlab hU7 => ?_
          simp [s2_len, s2_tk, szl]
          have := h (Pol.retry ps p) u7 ⟨⟨hlen, hps⟩, hp⟩ (by show ((1 + p.size : Nat) : Int) ≤ a; omega) (by show ((1 + p.depth : Nat) : Int) ≤ dp + 1; omega) hlab (hU7.mono (by show m + 6 + 8 * (p.size : Int) ≤ m + 8 * ((1 + p.size : Nat) : Int); omega))
          have e : a - ((Pol.retry ps p).size : Int) = a - 1 - (p.size : Int) := by show a - ((1 + p.size : Nat) : Int) = _; omega
          rw [e] at this
          exact this
      · exact absurd rfl hw
      · have hc2 : kd ≠ "retry" ∧ kd ≠ "timeout" := by rcases hk with rfl | rfl | rfl | rfl | rfl <;> decide
        refine seq_cut (fun ρ s => ρ = [some (.c i), some (.c j), some (.d (.int L)), some (.d (.int dp)), some (.d (.str kd)), x5, some (.d (nuD n)), none, none, none, none] ∧ s = s2 st i j u3 (lft (a - 1) k stem)) (by simp [hc2.1]) ?_
        rintro ρ s ⟨rfl, rfl⟩
        refine seq_cut (fun ρ s => ρ = [some (.c i), some (.c j), some (.d (.int L)), some (.d (.int dp)), some (.d (.str kd)), x5, some (.d (nuD n)), none, none, none, none] ∧ s = s2 st i j u3 (lft (a - 1) k stem)) (by simp [hc2.2]) ?_
        rintro ρ s ⟨rfl, rfl⟩
        refine seq_cut (fun ρ s => ρ = [some (.c i), some (.c j), some (.d (.int L)), some (.d (.int dp)), some (.d (.str kd)), x5, some (.d (nuD n)), none, none, none, none] ∧ s = s2 st i j u3 (lft (a - 1 - 1) k stem)) (by simp [szl, s2_j J, s2_sj J]) ?_
        rintro ρ s ⟨rfl, rfl⟩
        refine seq_cut (fun ρ s => ∃ (p : Pol) (u4 : Cl), ρ = [some (.c i), some (.c j), some (.d (.int L)), some (.d (.int dp)), some (.d (.str kd)), x5, some (.d (nuD n)), none, some (.d p.pd), none, none] ∧ s = s2 st i j u4 (lft (a - 1 - 1 - p.size) (k + p.labs.length) stem) ∧ p.Bnd L ∧ (p.size : Int) ≤ a - 2 ∧ (p.depth : Int) ≤ dp ∧ p.Lab stem k ∧ Urn (m + 3 + 8 * p.size) u4) ?_ ?_
        · simp
          refine w_grown f J hU3 (by omega) (by omega) (by omega) hL hL2 (by omega) (by omega) hst (by omega) fun p u4 hp hs hdp hlab hU4 => ?_
          simp [s2_len, s2_tk, szl]
          exact ⟨p, rfl, u4, rfl, hp, by omega, by omega, hlab, hU4⟩
        rintro ρ s ⟨p, u4, rfl, rfl, hp, hps, hpd, hpl, hU4⟩
        have hsz := p.size_pos
        have hll := p.labs_le
        refine seq_cut (fun ρ s => ρ = [some (.c i), some (.c j), some (.d (.int L)), some (.d (.int dp)), some (.d (.str kd)), x5, some (.d (nuD n)), none, some (.d p.pd), none, none] ∧ s = s2 st i j u4 (lft (a - 1 - 1 - p.size + 1) (k + p.labs.length) stem)) (by simp [szl, s2_j J, s2_sj J, lft]) ?_
        rintro ρ s ⟨rfl, rfl⟩
        refine seq_cut (fun ρ s => ∃ (q : Pol) (u5 : Cl), ρ = [some (.c i), some (.c j), some (.d (.int L)), some (.d (.int dp)), some (.d (.str kd)), x5, some (.d (nuD n)), none, some (.d p.pd), some (.d q.pd), none] ∧ s = s2 st i j u5 (lft (a - 1 - 1 - p.size + 1 - q.size) (k + p.labs.length + q.labs.length) stem) ∧ q.Bnd L ∧ (p.size + q.size : Int) ≤ a - 1 ∧ (q.depth : Int) ≤ dp ∧ q.Lab stem (k + p.labs.length) ∧ Urn (m + 3 + 8 * p.size + 8 * q.size) u5) ?_ ?_
        · simp
          refine w_grown f J hU4 (by omega) (by omega) (by omega) hL hL2 (by omega) (by omega) hst (by omega) fun q u5 hq hs hqd hlab hU5 => ?_
          simp [s2_len, s2_tk, szl]
          exact ⟨q, rfl, u5, rfl, hq, by omega, by omega, hlab, hU5⟩
        rintro ρ s ⟨q, u5, rfl, rfl, hq, hqs, hqd, hql, hU5⟩
        have hsz2 := q.size_pos
        have hlab : (p.labs ++ q.labs) = (List.range (p.labs ++ q.labs).length).map fun x => labK stem (k + x + 1) := lab_app hpl hql
        have hmax : max p.depth q.depth = p.depth ∨ max p.depth q.depth = q.depth := by omega
        have e2 : ((k + (p.labs ++ q.labs).length : Nat) : Int) = (k : Int) + p.labs.length + q.labs.length := by rw [List.length_append]; omega
        have fT : ∀ t : Two, P (.d (Pol.two t p q).pd) (s2 st i j u5 (lft (a - 1 - 1 - p.size + 1 - q.size) (k + p.labs.length + q.labs.length) stem)) := fun t => by
          have := h (Pol.two t p q) u5 ⟨hp, hq⟩ (by show ((1 + p.size + q.size : Nat) : Int) ≤ a; omega) (by show ((1 + max p.depth q.depth : Nat) : Int) ≤ dp + 1; rcases hmax with e | e <;> rw [e] <;> omega) hlab (hU5.mono (by show m + 3 + 8 * (p.size : Int) + 8 * (q.size : Int) ≤ m + 8 * ((1 + p.size + q.size : Nat) : Int); omega))
          have e : a - ((Pol.two t p q).size : Int) = a - 1 - 1 - p.size + 1 - q.size := by show a - ((1 + p.size + q.size : Nat) : Int) = _; omega
          have e3 : k + (Pol.two t p q).labs.length = k + p.labs.length + q.labs.length := by show k + (p.labs ++ q.labs).length = _; rw [List.length_append]; omega
          rw [e, e3] at this
          exact this
        have fN : ∀ t : Num, P (.d (Pol.num t n p q).pd) (s2 st i j u5 (lft (a - 1 - 1 - p.size + 1 - q.size) (k + p.labs.length + q.labs.length) stem)) := fun t => by
          have := h (Pol.num t n p q) u5 ⟨hn, hp, hq⟩ (by show ((1 + p.size + q.size : Nat) : Int) ≤ a; omega) (by show ((1 + max p.depth q.depth : Nat) : Int) ≤ dp + 1; rcases hmax with e | e <;> rw [e] <;> omega) hlab (hU5.mono (by show m + 3 + 8 * (p.size : Int) + 8 * (q.size : Int) ≤ m + 8 * ((1 + p.size + q.size : Nat) : Int); omega))
          have e : a - ((Pol.num t n p q).size : Int) = a - 1 - 1 - p.size + 1 - q.size := by show a - ((1 + p.size + q.size : Nat) : Int) = _; omega
          have e3 : k + (Pol.num t n p q).labs.length = k + p.labs.length + q.labs.length := by show k + (p.labs ++ q.labs).length = _; rw [List.length_append]; omega
          rw [e, e3] at this
          exact this
        rcases hk with rfl | rfl | rfl | rfl | rfl
        · simp [gIn, itemsD, flatD, eqF, szl]; exact fT .thn
        · simp [gIn, itemsD, flatD, eqF, szl]; exact fN .fall
        · simp [gIn, itemsD, flatD, eqF, szl]; exact fN .race
        · simp [gIn, itemsD, flatD, eqF, szl]; exact fN .hedge
        · simp [gIn, itemsD, flatD, eqF, szl]; exact fT .both
theorem w_policy {i : Nat} {u : Cl} {m L most : Int} (hu : st[i]? = some u) (hU : Urn m u) (h1 : 1 ≤ most) (h2 : most ≤ 38) (hL : 0 ≤ L) (hL2 : L < 2 ^ 90) (hm : m < 2 ^ 170)
    (h : ∀ (p : Pol) (stem : Str) (u' : Cl), p.Bnd L → (p.size : Int) ≤ most → p.depth ≤ 9 → p.Lab stem 0 → stem ∈ [Str.ofString "", Str.ofString "c", Str.ofString "call"] → Urn (m + 1 + 8 * most) u' → P (.d p.pd) (st.set i u')) :
    WVe noE (semP_policy [.c i, .d (.int most), .d (.int L)] st) P := by
  unfold semP_policy sbP_policy
  rw [W_body]
  have hi : i < st.length := (List.getElem?_eq_some_iff.mp hu).1
  simp [szl]
  refine w_of (xs := [.str (Str.ofString ""), .str (Str.ofString "c"), .str (Str.ofString "call")]) hu hU (by omega) (by simp) (by decide) fun x u1 hx hU1 => ?_
  have hx' : ∃ stem : Str, x = .str stem ∧ stem ∈ [Str.ofString "", Str.ofString "c", Str.ofString "call"] := by
    simp at hx
    rcases hx with rfl | rfl | rfl <;> exact ⟨_, rfl, by simp⟩
  obtain ⟨stem, rfl, hst⟩ := hx'
  have hsl : stem.length ≤ 100 := by
    simp at hst
    rcases hst with rfl | rfl | rfl <;> decide +kernel
  simp [szl]
  have J : Ij (st.set i u1 ++ [lft most 0 stem]) i st.length := ⟨by omega, by simp; omega, by simp⟩
  have e0 : st.set i u1 ++ [Cl.l [.int most, .int 0, .str stem]] = s2 (st.set i u1 ++ [lft most 0 stem]) i st.length u1 (lft most 0 stem) := by
    rw [s2_self]
    · rfl
    · rw [List.getElem?_append_left (by simpa using hi), List.getElem?_set_self hi]
    · rw [List.getElem?_append_right (by simp)]; simp
  rw [e0]
  refine w_grown 12 J hU1 h1 (by omega) (by omega) hL hL2 (by omega) (by omega) hsl (by omega) fun p u2 hp hs hd hlab hU2 => ?_
  have et : ∀ c d, (s2 (st.set i u1 ++ [lft most 0 stem]) i st.length c d).take st.length = st.set i c := fun c d => by
    unfold s2
    rw [List.set_append_left _ _ (by simpa using hi), List.set_append_right _ _ (by simp), List.set_set]
    exact List.take_left' (by simp)
  simp [et]
  exact h p stem u2 hp hs (by omega) hlab hst (hU2.mono (by omega))
end
end Cp
/-! Cth: a lambda without parameters, handed to a def that calls it within a try. -/
namespace Cp
open PySem PySem.Spec PyProof.Rows L2 LamX
/-! ### the table as a cell -/
section
variable {K : Kw} {μ : List Addr} {F H : Hp} {st : Sto}
theorem SR.table (s : SR K μ F H st) {n : Nat} {x q : Str} (h : st[n]? = some (tabC x q)) : ∃ P ps, μ[n]? = some P ∧ H P = some (.tbl ps) ∧ (He.cT K.K (x, none)).2 = P ∧ TriplesOk ps.toList ∧ ∀ (pos : Pos) (cv : Value), codeAmong pos ps.toList = some cv → ∃ c', cv = .ref c' ∧ F c' = some (CodeO c' q) := by
  obtain ⟨P, o, h1, h2, h3⟩ := s.cell0 n _ h
  rcases h3 with ⟨_, h3⟩ | h3
  · obtain ⟨k1, ps, k2, k3, k4⟩ := h3 x q rfl
    subst k2
    exact ⟨P, ps, h1, h2, k1, k3, k4⟩
  · exfalso
    have h3 : DcOk K F P [(.list [], .tuple [.str x, .str q])] o := h3
    rcases h3 with ⟨ws, _, d⟩ | ⟨es, _, d, _⟩
    · generalize e : (PyData.list [], PyData.tuple [.str x, .str q]) = p at d
      cases d with
      | @cons k v ws d kvs a b =>
        injection e with e1 e2
        cases k <;> cases e1
    · cases d with
      | cons _ e _ _ _ => simp [keyN] at e
theorem SR.tabbed (s : SR K μ F H st) {n : Nat} {x q : Str} {P c' : Addr} {ps ps' : Array Value} (hst : st[n]? = some (tabC x q)) (hμ : μ[n]? = some P) (hP : H P = some (.tbl ps)) (hx : (He.cT K.K (x, none)).2 = P) (hc : H c' = none)
    (ht : TriplesOk ps'.toList) (ha : ∀ (pos : Pos) (cv : Value), codeAmong pos ps'.toList = some cv → (∃ c', cv = .ref c' ∧ F c' = some (CodeO c' q)) ∨ cv = .ref c') :
    SR K μ (upd F c' (CodeO c' q)) (upd (upd H P (.tbl ps')) c' (CodeO c' q)) st ∧ Ext μ F H μ (upd F c' (CodeO c' q)) (upd (upd H P (.tbl ps')) c' (CodeO c' q)) := by
  have hd := s.dead hc
  have hF := s.sep n P _ hμ hst rfl
  have nPc : P ≠ c' := fun e => by rw [e, hc] at hP; cases hP
  have hm : P ∈ μ := List.mem_of_getElem? hμ
  have sm : Same F (upd F c' (CodeO c' q)) := fun b u h => by
    rw [upd_ne (fun e => by subst e; rw [hd.1] at h; cases h)]; exact h
  have other : ∀ b, b ≠ P → b ≠ c' → upd (upd H P (.tbl ps')) c' (CodeO c' q) b = H b := fun b h1 h2 => by rw [upd_ne h2, upd_ne h1]
  refine ⟨⟨s.nd, s.len, fun i a c h h2 h3 => ?_, fun b u h => ?_, fun i d h => ?_⟩, ⟨sm, ⟨[], by simp⟩, fun b u h n => ?_, fun b h => ?_, fun a u h => ?_, fun _ h => .inl h⟩⟩
  · rw [upd_ne (fun e => by subst e; exact hd.2 (List.mem_of_getElem? h))]; exact s.sep i a c h h2 h3
  · by_cases e : b = c'
    · subst e; rw [upd_same] at h ⊢; exact h
    · rw [upd_ne e] at h
      rw [other b (fun z => by subst z; rw [hF] at h; cases h) e]; exact s.sub b u h
  · by_cases e : i = n
    · subst e
      rw [hst] at h; cases h
      refine ⟨P, _, hμ, by rw [upd_ne nPc, upd_same], .inl ⟨rfl, fun y r z => ?_⟩⟩
      unfold tabC at z
      injection z with z; injection z with z _; injection z with _ z; injection z with z
      injection z with z1 z2; injection z2 with z2 _; injection z1 with z1; injection z2 with z2
      subst z1 z2
      refine ⟨hx, ps', rfl, ht, fun pos cv q' => ?_⟩
      rcases ha pos cv q' with ⟨c2, k1, k2⟩ | k
      · exact ⟨c2, k1, sm _ _ k2⟩
      · exact ⟨c', k, upd_same⟩
    · obtain ⟨a, u, h1, h2, h3⟩ := s.cell0 i d h
      refine ⟨a, u, h1, ?_, h3.same sm⟩
      rw [other a (fun z => ?_) (fun z => by subst z; exact hd.2 (List.mem_of_getElem? h1))]; exact h2
      subst z
      obtain ⟨l1, e1⟩ := List.getElem?_eq_some_iff.mp h1
      obtain ⟨l2, e2⟩ := List.getElem?_eq_some_iff.mp hμ
      exact e ((List.getElem_inj s.nd).mp (e1.trans e2.symm))
  · rw [other b (fun z => by subst z; exact n hm) (fun z => by subst z; rw [hc] at h; cases h)]; exact h
  · by_cases e : b = c'
    · subst e; exact hc
    · by_cases e2 : b = P
      · subst e2; rw [upd_ne e, upd_same] at h; cases h
      · rw [other b e2 e] at h; exact h
  · by_cases e : a = c'
    · subst e; exact .inr (.inl hc)
    · rw [upd_ne e] at h; exact .inl h
end
/-! ### the lambda is made -/
section
variable {X : Cx} {pins : List (Addr × Obj)} {σ : L2.St} {H : Hp} {s : Shared}
theorem lam_make3 {c P : Addr} {ps : Array Value} {params : Arguments} {body : Expr} {scope : Scope} {pos : Pos} {E : Value → Shared → Prop} {Q : Value → Shared → Prop} (I : Inv X pins σ H s) (TB : TabB X.base X.mg c P) (hcode : X.env.code = .ref c)
    (hP : H P = some (.tbl ps)) (ht : TriplesOk ps.toList) (ha : ∀ (pos : Pos) (cv : Value), codeAmong pos ps.toList = some cv → ∃ c, cv = .ref c ∧ H c = some (CodeO c (X.env.qual ++ "<lambda>")))
    (hdef : defaultsOf params X.env = ([], [])) (hfree : ∀ y ∈ scope.names, y.2 = .free → ∃ c, X.env.cells.lookup y.1 = some c)
    (h : ∀ (f c' : Addr) (pm ctv : Value) (H1 : Hp) (s' : Shared), Inv X pins σ H1 s' →
      ((H1 = H ∧ codeAmong pos ps.toList = some (.ref c')) ∨ (H c' = none ∧ ∃ ps' : Array Value, H1 = upd (upd H P (.tbl ps')) c' (CodeO c' (X.env.qual ++ "<lambda>")) ∧ TriplesOk ps'.toList ∧ ∀ (p' : Pos) (cv : Value), codeAmong p' ps'.toList = some cv → codeAmong p' ps.toList = some cv ∨ cv = .ref c')) →
      s'.heap.get? f = some (PySem.W.kla_obj "<lambda>" (X.env.qual ++ "<lambda>") params body scope (cloFrom X.env.cells scope.names []) pm c' ctv) → H1 f = none → f ∉ frs X.stack → Q (.ref f) s') :
    wpAny (model X.prog X.w) X.A (eval (.Lambda params body scope pos) X.env) Q E s := by
  refine PySem.W.kla_eval hdef ?_
  have bP : s.heap.BuiltinsAt X.mg P := TB.bm.keeps I.bk
  have hP' : s.heap.get? P = some { cls := .none, data := .fields ps } := I.hok P _ hP
  have nofr : ∀ f, s.heap.objs.size ≤ f → f ∉ frs X.stack := fun f hf z => by
    rcases List.mem_cons.mp (I.stkSub _ z) with e | e
    · have h1 := I.lt
      rw [← e] at h1
      exact Nat.lt_irrefl _ (Nat.lt_of_lt_of_le h1 hf)
    · exact I.nofs hf e
  cases hc : codeAmong pos ps.toList with
  | none =>
    refine PySem.W.kla_makeFunction (mg := X.mg) (c := c) (P := P) (ps := ps) (closure_ok hfree) I.ok.glob (I.mod.glob.keeps I.bk) hcode (TB.code.keeps I.bk) hP' ht hc TB.gP bP fun c' ctv h' tk hx hge hlt hrec htb => ?_
    obtain ⟨c2, oc, vs, t, e2, hoc, hd, hv⟩ := hrec
    cases e2
    have hsz : s.heap.objs.size ≤ h'.objs.size := Nat.le_trans hge (Nat.le_of_lt hlt)
    have nC : H c' = none := I.hok.fresh hge
    have I1 := inv_table (t' := tk) (more := #[rawInt pos.line, rawInt pos.col, .ref c']) (h' := h'.push (PySem.W.kla_obj "<lambda>" (X.env.qual ++ "<lambda>") params body scope (cloFrom X.env.cells scope.names []) ((X.mg "__name__").getD .none) c' ctv)) I hP
      (fun b o hb e => Heap.get?_push_of_some _ (hx b o hb e)) (Heap.get?_push_of_some _ htb) hge ⟨oc, vs, t, Heap.get?_push_of_some _ hoc, hd, hv⟩
    have eL : (ps ++ #[rawInt pos.line, rawInt pos.col, .ref c']).toList = ps.toList ++ [rawInt pos.line, rawInt pos.col, .ref c'] := by simp
    refine h h'.objs.size c' ((X.mg "__name__").getD .none) ctv _ _ I1 (.inr ⟨nC, _, rfl, by rw [eL]; exact PySem.TriplesOk_snoc _ _ _ _ ht, fun p' cv hcv => ?_⟩) (Heap.get?_push_size _ rfl) ?_ (nofr _ hsz)
    · rw [eL] at hcv
      exact among_app _ ht hcv
    · have n1 : h'.objs.size ≠ c' := Nat.ne_of_gt hlt
      have n2 : h'.objs.size ≠ P := Nat.ne_of_gt (Nat.lt_of_lt_of_le (Heap.lt_size hP') hsz)
      rw [upd_ne n1, upd_ne n2]
      exact I.hok.fresh hsz
  | some cv =>
    obtain ⟨c', e, hco⟩ := ha pos cv hc
    subst e
    refine PySem.W.kla_makeFunctionHit (mg := X.mg) (c := c) (P := P) (ps := ps) (closure_ok hfree) I.ok.glob (I.mod.glob.keeps I.bk) hcode (TB.code.keeps I.bk) hP' ht hc bP fun ctv h' tk hx hsz => ?_
    have I1 : Inv X pins σ H { s with heap := h'.push (PySem.W.kla_obj "<lambda>" (X.env.qual ++ "<lambda>") params body scope (cloFrom X.env.cells scope.names []) ((X.mg "__name__").getD .none) c' ctv), toks := tk } := I.kept fun b o e => Heap.get?_push_of_some _ (hx b o e)
    exact h h'.objs.size c' ((X.mg "__name__").getD .none) ctv H _ I1 (.inl ⟨rfl, hc⟩) (Heap.get?_push_size _ rfl) (I.hok.fresh hsz) (nofr _ hsz)
end
/-! ### its call, in the def that got it -/
open Classical in
/-- name(), where the name holds the thunk T -/
noncomputable def mAct (i : Nat) (T : Th) (m : Sto → Res Rv) : Ev := fun ρ st => if ρ[i]? = some (some (.o (.th T))) then m st else .no
/-- what is known of T, in the def entered from A, outer, s, H -/
def ActP (P : Program) (w : World) (K : PySem.W.Frag) (mg : Str → Option Value) (base : Heap) (A : Around) (outer : List Env) (s : Shared) (H : Hp) (E : XK) (j : Nat) (T : Th) (m : Sto → Res Rv) : Prop :=
  ∀ (N : List Str) (q : Str) (scope : Scope) (g : Addr) (cdv : Value) (pn : List (Addr × Obj)) (xe : Value → Shared → Prop) (C : Cn) (i : Nat) (a : Str) (p1 p2 : Pos),
    Bd j ((cxOf (L2.CX P w) P w K mg base N q scope g cdv A outer s H E).tr pn xe) C → N[i]? = some a → Vis scope a → (a == ("__debug__" : Str)) = false → (a == ("__classdict__" : Str)) = false →
    PE ((cxOf (L2.CX P w) P w K mg base N q scope g cdv A outer s H E).tr pn xe) (.Call (.Name a p1) [] [] p2) (tM C (mAct i T m))
section
variable {X : Cx} {pins : List (Addr × Obj)} {σ : L2.St} {H : Hp} {s : Shared} {k : Nat} {params : Arguments} {body : Expr} {scope : Scope} {mb : Ev}
theorem act_ok {f c' : Addr} {pm ctv : Value} {E : XK} {ds : List (Option PyData)} (I : Inv X pins σ H s) (L : LamS X.env.scope scope) (hnd : X.N.Nodup)
    (hf : s.heap.get? f = some (PySem.W.kla_obj "<lambda>" (X.env.qual ++ "<lambda>") params body scope (cloFrom X.env.cells scope.names []) pm c' ctv)) (hfn : H f = none) (hfr : f ∉ frs X.stack)
    (hbind : bindArgs (PySem.W.kla_fn "<lambda>" (X.env.qual ++ "<lambda>") params body scope (cloFrom X.env.cells scope.names []) pm (.ref c') ctv) ⟨[], []⟩ = pure [])
    (hbody : ∀ (A : Around) (outer : List Env) (s : Shared) (H : Hp) (E : XK), Bd k (lamCx X A outer s H E scope f c') (Cn.ofE ⟨X.K, X.w⟩ X.mg E) → PE (lamCx X A outer s H E scope f c') body (tM (Cn.ofE ⟨X.K, X.w⟩ X.mg E) mb)) :
    ActP X.prog X.w X.K X.mg X.base X.A X.stack s H E (k + 1) ⟨f, c', X.env.qual ++ "<lambda>", ds, σ⟩ (fun st => mb (ds.map (Option.map Vl.d)) st) := by
  intro N qg sg g cdg pn xe C i a p1 p2 B hN hv hd hcd
  obtain ⟨⟨K, w⟩, mg, W, σC⟩ := C
  obtain rfl : K = X.K := B.hK
  obtain rfl : w = X.w := B.hw
  obtain rfl : mg = X.mg := B.hm
  refine ⟨fun pinsZ sZ σZ HZ Q IZ ⟨ρ, st, μ, F, h1, h2, h3⟩ => ?_⟩
  unfold mAct at h3
  dsimp only at h3
  by_cases hρ : ρ[i]? = some (some (.o (.th ⟨f, c', X.env.qual ++ "<lambda>", ds, σ⟩)))
  case neg => rw [if_neg hρ] at h3; exact False.elim h3
  rw [if_pos hρ] at h3
  obtain ⟨v0, hs, hob⟩ := h1.2 i _ hρ
  obtain ⟨ev0, hFc, hl, hds⟩ := hob
  subst ev0
  have hc : HZ c' = some (CodeO c' (X.env.qual ++ "<lambda>")) := h2.sub _ _ hFc
  refine wpAny_Call_Name_kw (thn ((pe_var (pos := p1) (i := i) hN hv hd hcd).run pinsZ sZ σZ HZ (fun v H1 => v = .ref f ∧ H1 = HZ) IZ ⟨.ref f, hs, rfl, rfl⟩) fun u s1 ⟨v, H1, I1, r1, q1⟩ => ?_)
  obtain ⟨ev, eH⟩ := q1
  subst ev
  rw [eH] at I1
  obtain rfl : u = Value.ref f := r1
  have of1 : s1.heap.get? f = some (PySem.W.kla_obj "<lambda>" (X.env.qual ++ "<lambda>") params body scope (cloFrom X.env.cells scope.names []) pm c' ctv) := I1.base.keep f _ hf hfn hfr (fun z => nomatch (show f ∈ ([] : List Addr) from z))
  refine PySem.W.callWith_F0 ⟨_, _, _, _, of1⟩ ?_
  have un : Un (frs X.stack) [] H HZ s.heap s1.heap := I1.base
  obtain ⟨⟨oc, vs, t, hoc, hdc, hvc⟩, _, _⟩ := I1.hok c' _ hc
  have hr : Room (k + 1) (X.A.deeper (envOfC qg sg s.heap.objs.size g cdg)) := B.rm.room
  have rc : codeAny (model X.prog X.w) (X.A.deeper (envOfC qg sg s.heap.objs.size g cdg)) (.call (.ref f) ⟨[], []⟩) (CR (L2.CX X.prog X.w) (envOfC qg sg s.heap.objs.size g cdg :: X.stack) X.prog X.w HZ s1 Q (fun cls d H' => W cls d σZ H')) s1 := by
    refine PySem.W.kla_callFunE hr.depth of1 rfl L.co L.gen rfl ⟨c', oc, vs, t, rfl, hoc, hdc, hvc⟩ ?_
    rw [hbind]
    refine wpAny_pure (wpAny_newFunctionEnv (fun y hy => (L.own y hy).2) (fun y hy => absurd hy (by simp)) (fun h₁ hns hsb => ⟨I1.nolimit.fresh _ hsb, ?_⟩) L.kind)
    show codeAny _ _ (.expr body (lamEnv X scope s1.heap.objs.size f c')) _ _
    have kp : ∀ b o, s1.heap.get? b = some o → h₁.get? b = some o := fun b o e => hsb.extBut b o (Nat.ne_of_lt (Heap.lt_size e)) (Heap.get?_push_of_some _ e)
    have J : Inv (lamCx X (X.A.deeper (envOfC qg sg s.heap.objs.size g cdg)) (envOfC qg sg s.heap.objs.size g cdg :: X.stack) s1 HZ (fun cls d H' => W cls d σZ H') scope f c') [] σ HZ { s1 with heap := h₁, toks := s1.toks + ([] : List (Str × Value)).length } :=
      lam_start2 I L I1.env0 hr.hd un hns kp
    have rm2 : Rm k ((X.A.deeper (envOfC qg sg s.heap.objs.size g cdg)).deeper (lamEnv X scope s1.heap.objs.size f c')) := ⟨hr.deeper _, B.rm.gd⟩
    have bd : Bd k (lamCx X (X.A.deeper (envOfC qg sg s.heap.objs.size g cdg)) (envOfC qg sg s.heap.objs.size g cdg :: X.stack) s1 HZ (fun cls d H' => W cls d σZ H') scope f c') (Cn.ofE ⟨X.K, X.w⟩ X.mg fun cls d H' => W cls d σZ H') :=
      ⟨rfl, hnd, passes_of rfl, fun σ pins H s e s' I c => passes_call (takes_of rfl rfl rfl rfl) (fun _ _ _ _ h => h) pins σ H s e s' I c, rfl, rfl, rfl, rm2, takes_of rfl rfl rfl rfl⟩
    refine PySem.W.kla_codeExpr (wpAny_mono ((hbody _ _ s1 HZ _ bd).run [] _ _ HZ Q J ⟨ds.map (Option.map Vl.d), st, μ, F, ⟨by rw [List.length_map]; exact hl, fun j y e => ?_⟩, h2, h3⟩) (fun v s' hq => ?_) fun e s' hq => hq)
    · rw [List.getElem?_map] at e
      cases q : ds[j]? with
      | none => rw [q] at e; cases e
      | some o =>
        rw [q] at e
        cases o with
        | none => cases e
        | some d => cases e; exact hds j d q
    · obtain ⟨w', H', J', rv, q⟩ := hq
      exact ⟨w', H', J'.os, J'.bare, J'.base, J'.hok, rv, q⟩
  refine wpAny_call (codeAny_mono rc fun r s' hq => ?_)
  cases r with
  | error e => exact B.ps σZ pinsZ HZ s1 e s' I1 hq
  | ok fl =>
    cases fl with
    | ret u => exact I1.after hq
    | next => exact False.elim hq
    | brk => exact False.elim hq
    | cont => exact False.elim hq
end
/-! ### a def that takes a thunk -/
def KnL (P : Program) (w : World) (K : PySem.W.Frag) (mg : Str → Option Value) (base : Heap) (x : Str) (k : Nat) (sem : Th → (Sto → Res Rv) → Fs) : Prop :=
  ∃ g fd a, mg x = some (.ref g) ∧ PySem.W.keepIn K (.ref g) = true ∧ Binds K fd [a] [] ∧
    ∀ (A : Around) (outer : List Env) (s : Shared) (H : Hp) (args : Args) (us : List Value) (vs : List V) (Q : VK) (E : XK) (T : Th) (m : Sto → Res Rv), Rm (k + 1) A → Env0 P w K mg base A outer s H → BindsTo s fd args (([a] : List Str).zip us) → Vals vs us → ActP P w K mg base A outer s H E k T m →
      spF ⟨K, w⟩ mg (sem T m) vs H Q E → codeAny (model P w) A (.call (.ref g) args) (CR (L2.CX P w) outer P w H s Q E) s
section
variable {P : Program} {w : World} {K : PySem.W.Frag} {mg : Str → Option Value} {base : Heap} {k : Nat} {x : Str} {N ps : List Str} {sb : Sv}
theorem run_of {st : Stmt} {f : Addr} {oc kV doc pm cdv ct : Value} {od an : Option Addr} {osl : Array (Option Value)} {A : Around} {outer : List Env} {s : Shared} {H : Hp} {args : Args} {us : List Value} {vs : List V} {Q : VK} {E : XK}
    (lk : K.lookup f = some ⟨oc, od, .func (PySem.W.fnOf x x (defArgs st) (defBody st) (defScope st) .none kV doc pm an cdv ct), osl⟩) (S : FnScope N ps (defScope st)) (hr : Rm (k + 1) A) (e0 : Env0 P w K mg base A outer s H)
    (hbd : BindsTo s (PySem.W.fnOf x x (defArgs st) (defBody st) (defScope st) .none kV doc pm an cdv ct) args (ps.zip us)) (r : Vals vs us) (hcd : PySem.W.codeIn K cdv x = true) (hsp : spF ⟨K, w⟩ mg (bodyF N.length ps.length sb) vs H Q E)
    (body : Bd k (cxOf (L2.CX P w) P w K mg base N x (defScope st) f cdv A outer s H E) (Cn.ofE ⟨K, w⟩ mg E) →
      PSs (cxOf (L2.CX P w) P w K mg base N x (defScope st) f cdv A outer s H E) (defBody st) (tS (Cn.ofE ⟨K, w⟩ mg E) sb)) : codeAny (model P w) A (.call (.ref f) args) (CR (L2.CX P w) outer P w H s Q E) s := by
  have hl : vs.length = ps.length := by
    obtain ⟨args, st, μ, F, a, b, c⟩ := hsp
    unfold bodyF at c
    by_cases hl : args.length = ps.length
    · rw [← a.length, hl]
    · rw [if_neg hl] at c; exact False.elim c
  have KX : K.In s.heap := e0.mod.kin.keeps fun b o e => (e0.bs b o e).1
  have lim : s.heap.NoLimit := e0.mod.nolimit.keeps fun b o e => (e0.bs b o e).1
  have hkind : ∀ y ∈ ps.zip us, (defScope st).names.lookup y.1 = some .local ∨ ((defScope st).names.lookup y.1 = some .cell ∧ ((cellsFrom (s.heap.objs.size + 1) (defScope st).names []).lookup y.1).isSome = true) := fun ⟨n, v⟩ hy =>
    (S.par n (List.of_mem_zip hy).1).imp id fun q => ⟨q, PySem.W.cellsFrom_some _ _ _ (.inl q)⟩
  refine codeAny_call_function hr.room.depth (KX _ _ lk) rfl S.co S.gen rfl (PySem.W.codeRec_of KX hcd) (hbd _ _ _ _ ?_)
  refine wpAny_newFunctionEnv_cells S.kind hkind fun env he s1 y => ?_
  subst he
  refine ⟨lim.keeps y.toInCall.keep, codeAny_func ?_⟩
  have hr2 : Rm k (A.deeper (PyProof.Rows.envOfC x (defScope st) s.heap.objs.size f cdv)) := ⟨hr.room.deeper _, hr.gd⟩
  have I : Inv (cxOf (L2.CX P w) P w K mg base N x (defScope st) f cdv A outer s H E) [] (L2.start N vs) H s1 := inv_start S hr.room.hd e0 hl r y
  have bd : Bd k (cxOf (L2.CX P w) P w K mg base N x (defScope st) f cdv A outer s H E) (Cn.ofE ⟨K, w⟩ mg E) := ⟨rfl, S.nd, passes_of rfl, fun σ pins H s e s' I c => passes_call (takes_of rfl rfl rfl rfl) (fun _ _ _ _ h => h) pins σ H s e s' I c, rfl, rfl, rfl, hr2, takes_of rfl rfl rfl rfl⟩
  obtain ⟨as, st0, μ, F0, a, b, c⟩ := hsp
  have hal : as.length = ps.length := by rw [a.length, hl]
  unfold bodyF at c
  rw [if_pos hal] at c
  refine wpAny_mono ((body bd).run [] s1 (L2.start N vs) H { nx := fun _ H' => Q .non H', rt := Q } I ⟨_, st0, μ, F0, start_ok N a, b, ?_⟩) (fun fl s' hs => ?_) fun e s' hs => hs
  · show PostS _ _ μ F0 H (sb (as.map some ++ List.replicate (N.length - as.length) none) st0)
    cases q : sb (as.map some ++ List.replicate (N.length - as.length) none) st0 with
    | rt r s => simp only [q] at c; exact c
    | nx ρ s => simp only [q] at c; exact fun σ' μ' F' H' x2 r2 _ => c .non μ' F' H' ⟨x2, r2, .non, fun _ e => nomatch e⟩
    | er e s => simp only [q] at c; exact c
    | bk ρ s => simp only [q] at c; exact False.elim c
    | ct ρ s => simp only [q] at c; exact False.elim c
    | no => simp only [q] at c; exact False.elim c
  · have fin : ∀ {σ' : L2.St} {H' : Hp} {v : V} {u : Value}, Inv (cxOf (L2.CX P w) P w K mg base N x (defScope st) f cdv A outer s H E) [] σ' H' s' → RelV v u → Q v H' → CE outer P w H s Q u s' :=
      fun {σ' H' v u} J rv q => ⟨v, H', J.os, J.bare, J.base, J.hok, rv, q⟩
    cases fl with
    | ret u => obtain ⟨v, σ', H', J, rv, q⟩ := hs; exact fin J rv q
    | next => obtain ⟨σ', H', J, q⟩ := hs; exact fin (v := V.non) (u := Value.none) J rfl q
    | brk => obtain ⟨_, _, _, q⟩ := hs; exact False.elim q
    | cont => obtain ⟨_, _, _, q⟩ := hs; exact False.elim q
theorem kn_defL {st : Stmt} {a : Str} {sb : Th → (Sto → Res Rv) → Sv} (D : Df K mg x st) (S : FnScope N [a] (defScope st))
    (hb : ∀ (kV doc pm : Value) (an : Option Addr) (cdv ct : Value) (us : List Value), us.length = ([a] : List Str).length → bindArgs (PySem.W.fnOf x x (defArgs st) (defBody st) (defScope st) .none kV doc pm an cdv ct) ⟨us, []⟩ = pure (([a] : List Str).zip us))
    (body : ∀ (T : Th) (m : Sto → Res Rv) (cdv : Value) (f : Addr) (A : Around) (outer : List Env) (s : Shared) (H : Hp) (E : XK), ActP P w K mg base A outer s H E k T m → Bd k (cxOf (L2.CX P w) P w K mg base N x (defScope st) f cdv A outer s H E) (Cn.ofE ⟨K, w⟩ mg E) →
      PSs (cxOf (L2.CX P w) P w K mg base N x (defScope st) f cdv A outer s H E) (defBody st) (tS (Cn.ofE ⟨K, w⟩ mg E) (sb T m))) : KnL P w K mg base x k (fun T m => bodyF N.length 1 (sb T m)) := by
  obtain ⟨f, fd, F, hm⟩ := D
  have hbi := F.bindsN hb
  have kp := F.kp
  refine ⟨f, fd, a, hm, kp, hbi, fun A outer s H args us vs Q E T m hr e0 hbd r act hsp => ?_⟩
  obtain ⟨oc, od, dV, kV, doc, pm, an, cdv, ct, osl, rfl, lk, hcd, hD, hK⟩ := F.ex
  rcases hD with ⟨_, rfl⟩ | ⟨e, _⟩
  · exact run_of (st := st) lk S hr e0 hbd r hcd hsp fun B => body T m cdv f A outer s H E act B
  · exact absurd rfl e
end
/-! ### g(lambda: e) -/
def dOnly (ρ : En) : List (Option PyData) := ρ.map fun o => match o with
  | some (.d x) => some x
  | _ => none
open Classical in
/-- what is the same for all thunks -/
noncomputable def comm (f : Th → Res Rv) : Res Rv := if h : ∃ r, ∀ T, f T = r then h.choose else .no
theorem comm_eq {f : Th → Res Rv} {r : Res Rv} (h : ∀ T, f T = r) : comm f = r := by
  unfold comm
  have hh : ∃ r, ∀ T, f T = r := ⟨r, h⟩
  rw [dif_pos hh, ← hh.choose_spec ⟨0, 0, "", [], []⟩, h]
theorem comm_of {f : Th → Res Rv} : comm f = .no ∨ ∀ T, f T = comm f := by
  unfold comm
  by_cases hh : ∃ r, ∀ T, f T = r
  · rw [dif_pos hh]; exact .inr hh.choose_spec
  · rw [dif_neg hh]; exact .inl rfl
open Classical in
noncomputable def mLam (n : Nat) (x q : Str) (sem : Th → (Sto → Res Rv) → Fs) (mb : Ev) : Ev := fun ρ st =>
  if st[n]? = some (tabC x q) then gcR st.length (comm fun T => sem T (fun s => mb ((dOnly ρ).map (Option.map Vl.d)) s) [.o (.th T)] st) else .no
section
variable {X : Cx} {C : Cn} {k j n : Nat} {x g q : Str} {p pos lpos : Pos} {params : Arguments} {body : Expr} {scope : Scope} {mb : Ev} {sem : Th → (Sto → Res Rv) → Fs}
theorem lam_run {pins : List (Addr × Obj)} {σ : L2.St} {H : Hp} {s : Shared} {Q : VK} {μ : List Addr} {F : Hp} {st : Sto} {ds : List (Option PyData)} (B : Bd k X C) (G : KnL X.prog X.w X.K X.mg X.base g (j + 1) sem) (hj : j + 2 ≤ k) (hg : Gl X g) (TB : TabB X.base X.mg (He.cT X.K (x, none)).1 (He.cT X.K (x, none)).2) (hcode : X.env.code = .ref (He.cT X.K (x, none)).1) (hq : X.env.qual ++ "<lambda>" = q)
    (L : LamS X.env.scope scope) (hdef : defaultsOf params X.env = ([], [])) (hbind : ∀ (q : Str) (cl : List (Str × Addr)) (pm cv ctv : Value), bindArgs (PySem.W.kla_fn "<lambda>" q params body scope cl pm cv ctv) ⟨[], []⟩ = pure [])
    (hbody : ∀ (A : Around) (outer : List Env) (s : Shared) (H : Hp) (E : XK) (f c' : Addr), Bd j (lamCx X A outer s H E scope f c') (Cn.ofE ⟨X.K, X.w⟩ X.mg E) → PE (lamCx X A outer s H E scope f c') body (tM (Cn.ofE ⟨X.K, X.w⟩ X.mg E) mb))
    (I : Inv X pins σ H s) (h2 : SR C.K μ F H st) (hst : st[n]? = some (tabC x q)) (hl : ds.length = σ.length) (hds : ∀ (i : Nat) (d : PyData), ds[i]? = some (some d) → ∃ u, σ[i]? = some (some u) ∧ Dq C.K F u d)
    (h3 : PostE (C.at σ) Q μ F H (gcR st.length (comm fun T => sem T (fun s => mb (ds.map (Option.map Vl.d)) s) [.o (.th T)] st)))
    (hdb : (g == ("__debug__" : Str)) = false := by decide) :
    wpAny (model X.prog X.w) X.A (eval (.Call (.Name g p) [.Lambda params body scope lpos] [] pos) X.env) (EP X pins σ Q) X.xe s := by
  obtain ⟨gf, fd, a, hm, hkp, hb, G⟩ := G
  obtain ⟨⟨K, w⟩, mg, W, σC⟩ := C
  obtain rfl : K = X.K := B.hK
  obtain rfl : w = X.w := B.hw
  obtain rfl : mg = X.mg := B.hm
  subst hq
  obtain ⟨P, ps, hμ, hP, hx, ht, ha⟩ := h2.table hst
  rcases comm_of (f := fun T => sem T (fun s => mb (ds.map (Option.map Vl.d)) s) [.o (.th T)] st) with hc | hc
  · rw [hc] at h3; exact False.elim h3
  subst hx
  refine wpAny_Call_Name_kw (ld_glob I hg hm ?_ hdb)
  refine PySem.W.callWith_K (h₀ := X.base) I.ok.mod.kin hkp ?_ (by rfl) (by rfl)
  show wpAny _ _ (spliced ((false, eval (.Lambda params body scope lpos) X.env) :: backTo pos (starEach [] X.env))) _ _ s
  refine Calls.spliced_cons (lam_make3 I TB hcode hP ht (fun pos cv hcv => ?_) hdef (L.has I.ok) fun f c' pm' ctv H1 s' I1 hH hf hfn hfr => ?_)
  · obtain ⟨c', k1, k2⟩ := ha pos cv hcv
    exact ⟨c', k1, h2.sub _ _ k2⟩
  have key : ∃ F1, SR ⟨X.K, X.w⟩ μ F1 H1 st ∧ Ext μ F H μ F1 H1 ∧ F1 c' = some (CodeO c' (X.env.qual ++ "<lambda>")) := by
    rcases hH with ⟨rfl, hcv⟩ | ⟨nC, ps', rfl, ht', ha'⟩
    · obtain ⟨c2, k1, k2⟩ := ha _ _ hcv
      cases k1
      exact ⟨F, h2, Ext.refl, k2⟩
    · obtain ⟨r1, x1⟩ := h2.tabbed hst hμ hP rfl nC ht' fun pos cv q => (ha' pos cv q).imp (fun z => ha pos cv z) id
      exact ⟨_, r1, x1, upd_same⟩
  obtain ⟨F1, r1, x1, hco⟩ := key
  refine Calls.spliced_nil ⟨I1.kIn, ?_⟩
  have act := act_ok (k := j) (E := fun cls d H => W cls d σ H) (ds := ds) I1 L B.nd hf hfn hfr (hbind _ _ _ _ _) fun A outer s H E => hbody A outer s H E f c'
  have sp : spF ⟨X.K, X.w⟩ X.mg (sem ⟨f, c', X.env.qual ++ "<lambda>", ds, σ⟩ (fun s => mb (ds.map (Option.map Vl.d)) s)) [.ref f] H1 Q (fun cls d H => W cls d σ H) := by
    refine ⟨[.o (.th ⟨f, c', X.env.qual ++ "<lambda>", ds, σ⟩)], st, μ, F1, .cons ⟨rfl, hco, hl, fun i d e => ?_⟩ .nil, r1, ?_⟩
    · obtain ⟨u, k1, k2⟩ := hds i d e
      exact ⟨u, k1, Dq.same x1.same k2⟩
    · rw [hc ⟨f, c', X.env.qual ++ "<lambda>", ds, σ⟩]
      exact call_post h2 x1 h3
  refine wpAny_call (codeAny_mono (G X.A X.stack s' H1 ⟨[.ref f], []⟩ [.ref f] [.ref f] Q (fun cls d H => W cls d σ H) _ _ (B.rm.mono hj) I1.env0 (by have hb' := hb s' [.ref f] I1.kIn (by rfl); rw [List.append_nil] at hb'; exact hb') (.cons rfl .nil) act sp) fun r' s2 hq => ?_)
  cases r' with
  | error e => exact B.ps σ pins H1 s' e s2 I1 hq
  | ok fl =>
    cases fl with
    | ret u => exact I1.after hq
    | next => exact False.elim hq
    | brk => exact False.elim hq
    | cont => exact False.elim hq
theorem dOnly_ok {K : Kw} {F : Hp} {μ : List Addr} {ρ : En} {σ : L2.St} (h : Eok K F μ ρ σ) : (dOnly ρ).length = σ.length ∧ ∀ (i : Nat) (d : PyData), (dOnly ρ)[i]? = some (some d) → ∃ u, σ[i]? = some (some u) ∧ Dq K F u d := by
  refine ⟨by unfold dOnly; rw [List.length_map]; exact h.1, fun i d e => ?_⟩
  unfold dOnly at e
  rw [List.getElem?_map] at e
  cases q : ρ[i]? with
  | none => rw [q] at e; cases e
  | some o =>
    rw [q] at e
    cases o with
    | none => cases e
    | some y =>
      cases y with
      | d y =>
        cases e
        obtain ⟨u, k1, k2⟩ := h.2 i _ q
        exact ⟨u, k1, k2⟩
      | _ => cases e
theorem s_lam (B : Bd k X C) (G : KnL X.prog X.w X.K X.mg X.base g (j + 1) sem) (hj : j + 2 ≤ k) (hg : Gl X g) (TB : TabB X.base X.mg (He.cT X.K (x, none)).1 (He.cT X.K (x, none)).2) (hcode : X.env.code = .ref (He.cT X.K (x, none)).1) (hq : X.env.qual ++ "<lambda>" = q)
    (L : LamS X.env.scope scope) (hdef : defaultsOf params X.env = ([], [])) (hbind : ∀ (q : Str) (cl : List (Str × Addr)) (pm cv ctv : Value), bindArgs (PySem.W.kla_fn "<lambda>" q params body scope cl pm cv ctv) ⟨[], []⟩ = pure [])
    (hbody : ∀ (A : Around) (outer : List Env) (s : Shared) (H : Hp) (E : XK) (f c' : Addr), Bd j (lamCx X A outer s H E scope f c') (Cn.ofE ⟨X.K, X.w⟩ X.mg E) → PE (lamCx X A outer s H E scope f c') body (tM (Cn.ofE ⟨X.K, X.w⟩ X.mg E) mb))
    (hdb : (g == ("__debug__" : Str)) = false := by decide) :
    PE X (.Call (.Name g p) [.Lambda params body scope lpos] [] pos) (tM C (mLam n x q sem mb)) := by
  refine ⟨fun pins s σ H Q I ⟨ρ, st, μ, F, h1, h2, h3⟩ => ?_⟩
  unfold mLam at h3
  dsimp only at h3
  by_cases hst : st[n]? = some (tabC x q)
  case neg => rw [if_neg hst] at h3; exact False.elim h3
  rw [if_pos hst] at h3
  obtain ⟨hl, hds⟩ := dOnly_ok h1
  exact lam_run B G hj hg TB hcode hq L hdef hbind hbody I h2 hst hl hds h3 hdb
open Classical in
/-- the same; the dict in slot z becomes data -/
noncomputable def mLamZ (n z : Nat) (x q : Str) (sem : Th → (Sto → Res Rv) → Fs) (mb : Ev) : Ev := fun ρ st => match ρ[z]? with
  | some (some (.c i)) => (match st[i]? with
    | some (.m kvs) => if isGone (.m kvs) = false ∧ st[n]? = some (tabC x q) then gcR st.length (comm fun T => sem T (fun s => mb (((dOnly ρ).set z (some (.dict kvs))).map (Option.map Vl.d)) s) [.o (.th T)] (st.set i gone)) else .no
    | _ => .no)
  | _ => .no
theorem SR.toDataM {K : Kw} {μ : List Addr} {F H : Hp} {st : Sto} (s : SR K μ F H st) {i : Nat} {p : Addr} {kvs : List (PyData × PyData)} (hi : μ[i]? = some p) (h0 : st[i]? = some (.m kvs)) (hz : isGone (.m kvs) = false) : ∃ F2, SR K μ F2 H (st.set i gone) ∧ Ext μ F H μ F2 H ∧ Dq K F2 (.ref p) (.dict kvs) := by
  have hm : p ∈ μ := List.mem_of_getElem? hi
  have hil : i < μ.length := (List.getElem?_eq_some_iff.mp hi).1
  have hF := s.sep i p _ hi h0 (notDead hz)
  obtain ⟨p', o, g1, g2, g3⟩ := s.cell i _ h0 hz
  rw [hi] at g1; cases g1
  have sm : Same F (upd F p o) := fun b u h => by
    rw [upd_ne (fun e => by subst e; rw [hF] at h; cases h)]; exact h
  refine ⟨upd F p o, ⟨s.nd, by simp [s.len], fun j a d h h2 h3 => ?_, fun b u h => ?_, fun j d h => ?_⟩, ⟨sm, ⟨[], by simp⟩, fun _ _ h _ => h, fun _ h => h, fun a u h => ?_, fun _ h => .inl h⟩, DcOk.dq (DcOk.same sm g3) upd_same⟩
  · by_cases e : j = i
    · subst e
      rw [List.getElem?_set_self (by rw [← s.len]; exact hil)] at h2
      cases h2; cases h3
    · rw [List.getElem?_set_ne (Ne.symm e)] at h2
      rw [upd_ne (fun z => ?_)]; exact s.sep j a d h h2 h3
      subst z
      obtain ⟨l1, e1⟩ := List.getElem?_eq_some_iff.mp h
      obtain ⟨l2, e2⟩ := List.getElem?_eq_some_iff.mp hi
      exact e ((List.getElem_inj s.nd).mp (e1.trans e2.symm))
  · by_cases e : b = p
    · subst e; rw [upd_same] at h; cases h; exact g2
    · rw [upd_ne e] at h; exact s.sub b u h
  · by_cases e : j = i
    · subst e
      rw [List.getElem?_set_self (by rw [← s.len]; exact hil)] at h
      cases h
      exact ⟨_, _, hi, g2, gone_w⟩
    · rw [List.getElem?_set_ne (Ne.symm e)] at h
      obtain ⟨a, u, h1, h2, h3⟩ := s.cell0 j d h
      exact ⟨a, u, h1, h2, h3.same sm⟩
  · by_cases e : a = p
    · subst e; exact .inr (.inr hm)
    · rw [upd_ne e] at h; exact .inl h
theorem s_lamZ {z : Nat} (B : Bd k X C) (G : KnL X.prog X.w X.K X.mg X.base g (j + 1) sem) (hj : j + 2 ≤ k) (hg : Gl X g) (TB : TabB X.base X.mg (He.cT X.K (x, none)).1 (He.cT X.K (x, none)).2) (hcode : X.env.code = .ref (He.cT X.K (x, none)).1) (hq : X.env.qual ++ "<lambda>" = q)
    (L : LamS X.env.scope scope) (hdef : defaultsOf params X.env = ([], [])) (hbind : ∀ (q : Str) (cl : List (Str × Addr)) (pm cv ctv : Value), bindArgs (PySem.W.kla_fn "<lambda>" q params body scope cl pm cv ctv) ⟨[], []⟩ = pure [])
    (hbody : ∀ (A : Around) (outer : List Env) (s : Shared) (H : Hp) (E : XK) (f c' : Addr), Bd j (lamCx X A outer s H E scope f c') (Cn.ofE ⟨X.K, X.w⟩ X.mg E) → PE (lamCx X A outer s H E scope f c') body (tM (Cn.ofE ⟨X.K, X.w⟩ X.mg E) mb))
    (hdb : (g == ("__debug__" : Str)) = false := by decide) :
    PE X (.Call (.Name g p) [.Lambda params body scope lpos] [] pos) (tM C (mLamZ n z x q sem mb)) := by
  refine ⟨fun pins s σ H Q I ⟨ρ, st, μ, F, h1, h2, h3⟩ => ?_⟩
  unfold mLamZ at h3
  dsimp only at h3
  cases hz : ρ[z]? with
  | none => rw [hz] at h3; exact False.elim h3
  | some o =>
    rw [hz] at h3
    cases o with
    | none => exact False.elim h3
    | some y =>
      cases y with
      | c i =>
        dsimp only at h3
        cases hi : st[i]? with
        | none => rw [hi] at h3; exact False.elim h3
        | some c =>
          rw [hi] at h3
          cases c with
          | l _ => exact False.elim h3
          | m kvs =>
            dsimp only at h3
            by_cases hh : isGone (.m kvs) = false ∧ st[n]? = some (tabC x q)
            case neg => rw [if_neg hh] at h3; exact False.elim h3
            rw [if_pos hh] at h3
            obtain ⟨hg0, hst⟩ := hh
            obtain ⟨u, k1, a, k2, rfl⟩ := h1.2 z _ hz
            obtain ⟨F2, r2, x2, hd⟩ := h2.toDataM k2 hi hg0
            have hne : i ≠ n := fun e => by
              subst e
              rw [hi] at hst
              injection hst with hst
              rw [hst, tab_gone] at hg0; cases hg0
            obtain ⟨hl, hds⟩ := dOnly_ok (h1.ext x2)
            have len : (st.set i gone).length = st.length := List.length_set
            refine lam_run (n := n) B G hj hg TB hcode hq L hdef hbind hbody I r2 (by rw [List.getElem?_set_ne hne]; exact hst) (ds := (dOnly ρ).set z (some (.dict kvs))) (by rw [List.length_set]; exact hl) (fun w d e => ?_) (by rw [len]; exact Post.later gE_lat x2 h3) hdb
            by_cases hw : z = w
            · subst hw
              have hzl : z < (dOnly ρ).length := by rw [hl]; exact (List.getElem?_eq_some_iff.mp k1).1
              rw [List.getElem?_set_self hzl] at e
              cases e
              exact ⟨_, k1, hd⟩
            · rw [List.getElem?_set_ne hw] at e
              exact hds w d e
      | _ => exact False.elim h3
end
section
variable {E : Er → Sto → Prop} {ρ : En} {st : Sto} {Q : Rv → Sto → Prop}
theorem W_mLam {n : Nat} {x q : Str} {sem : Th → (Sto → Res Rv) → Fs} {mb : Ev} (h : st[n]? = some (tabC x q)) {r : Rv} {s : Sto} (hs : ∀ T, sem T (fun s => mb ((dOnly ρ).map (Option.map Vl.d)) s) [.o (.th T)] st = .ok r s) (hb : back st.length r s Q) : WVe E (mLam n x q sem mb ρ st) Q := by
  unfold mLam
  rw [if_pos h, comm_eq hs]
  unfold back at hb
  cases r with
  | c i =>
    unfold gcR
    simp only at hb ⊢
    by_cases hi : i < st.length
    · rw [if_pos hi] at hb ⊢; exact hb
    · rw [if_neg hi] at hb ⊢
      cases q : s[i]? with
      | none => rw [q] at hb; exact hb
      | some c =>
        rw [q] at hb
        have hb : isGone c = false ∧ Q (.n c) (s.take st.length) := hb
        simp only [hb.1]; exact hb.2
  | _ => exact hb
theorem W_mLamZ {n z i : Nat} {x q : Str} {kvs : List (PyData × PyData)} {sem : Th → (Sto → Res Rv) → Fs} {mb : Ev} (hz : ρ[z]? = some (some (.c i))) (hi : st[i]? = some (.m kvs)) (hg : isGone (.m kvs) = false) (h : st[n]? = some (tabC x q)) {r : Rv} {s : Sto}
    (hs : ∀ T, sem T (fun s => mb (((dOnly ρ).set z (some (.dict kvs))).map (Option.map Vl.d)) s) [.o (.th T)] (st.set i gone) = .ok r s) (hb : back st.length r s Q) : WVe E (mLamZ n z x q sem mb ρ st) Q := by
  unfold mLamZ
  rw [hz]
  dsimp only
  rw [hi]
  dsimp only
  rw [if_pos ⟨hg, h⟩, comm_eq hs]
  unfold back at hb
  cases r with
  | c i =>
    unfold gcR
    simp only at hb ⊢
    by_cases hi : i < st.length
    · rw [if_pos hi] at hb ⊢; exact hb
    · rw [if_neg hi] at hb ⊢
      cases q : s[i]? with
      | none => rw [q] at hb; exact hb
      | some c =>
        rw [q] at hb
        have hb : isGone c = false ∧ Q (.n c) (s.take st.length) := hb
        simp only [hb.1]; exact hb.2
  | _ => exact hb
open Classical in
theorem W_mAct {i : Nat} {T : Th} {m : Sto → Res Rv} : WVe E (mAct i T m ρ st) Q = (ρ[i]? = some (some (.o (.th T))) ∧ WVe E (m st) Q) := by
  unfold mAct
  by_cases h : ρ[i]? = some (some (.o (.th T)))
  · rw [if_pos h]; simp [h]
  · rw [if_neg h]; simp only [h, false_and]; rfl
end
end Cp
/-! Cpt: the end of a law whose defs make lambdas: their tables of code objects. -/
namespace Cp
open PySem L2
abbrev tabA (K : PySem.W.Frag) (p : Str × Str) : Addr := (He.cT K (p.1, none)).2
abbrev TabsOk (K : PySem.W.Frag) (base : Heap) (mg : Str → Option Value) (tb : List (Str × Str)) : Prop := ∀ p ∈ tb, LamX.TabB base mg (He.cT K (p.1, none)).1 (He.cT K (p.1, none)).2
section
open PySem.W PyProof.Rows
variable {P : Program} {w : World} {K : Frag} {mg mb : Str → Option Value} {k : Nat} {fa a : Addr} {fd : FuncData} {x : Str} {sem : Fs} {s0 : Shared} {vs : List Value} {ns : List Int} {tb : List (Str × Str)}
theorem law_coreT (KX : K.In s0.heap) (hns : s0.heap.Ns mainGlobals mg) (hb : s0.heap.Ns builtinsNs mb) (hbb : ∀ y : Str, y ≠ "__name__" → mb y = bootBuiltins y) (hlim : s0.heap.NoLimit) (hg : s0.gens = #[])
    (hT : ∀ p ∈ tb, s0.heap.get? (tabA K p) = some { cls := .none, data := .fields #[] }) (nT : ∀ p ∈ tb, K.lookup (tabA K p) = none) (C : ∀ p ∈ tb, CodeHd s0.heap (He.cT K (p.1, none)).1 (tabA K p)) (hnd : (tb.map (tabA K)).Nodup)
    (hbm : ∃ (bm : Addr) (ob : Obj), mg "__builtins__" = some (.ref bm) ∧ bm ≠ builtinsNs ∧ s0.heap.get? bm = some ob ∧ ob.cls = .type "module" ∧ ob.dict = some builtinsNs ∧ ob.data = .plain)
    (ha : s0.heap.get? a = some { cls := .type "list", data := .seq vs.toArray }) (hr : Rm k callerA)
    (F : ∀ base : Heap, K.In base → base.Ns mainGlobals mg → TabsOk K base mg tb → FnC P w K mg base k fa fd [x] sem) (hbind : ∀ (s : Shared) (u : Value), BindsTo s fd ⟨[u], []⟩ [(x, u)])
    (FF : Hp) (H : Hp) (hH : ∀ b, H b = if b ∈ tb.map (tabA K) then some (.tbl #[]) else FF b) (hO : Only FF) (hS : SqL K FF a (ns.map V.int)) (hok : HOk P w H s0.heap) (hA : ∀ b, FF b ≠ none → b = a) (hK : FF a ≠ none → K.lookup a = none)
    (hsem : ∃ st, sem [.s ns] (tb.map fun p => tabC p.1 p.2) = .ok (.d (.bool true)) st) :
    codeAny (model P w) callerA (.call (.ref fa) ⟨[.ref a], []⟩) (fun r s' => r = .ok (.ret (.bool true)) ∧ OldK s0.heap s'.heap ∧ s'.os = s0.os ∧ AllBare s'.gens) s0 := by
  have isT : ∀ b : Addr, b ∈ tb.map (tabA K) → s0.heap.get? b = some { cls := .none, data := .fields #[] } := fun b hb => by
    obtain ⟨p, hp, e⟩ := List.mem_map.mp hb
    rw [← e]; exact hT p hp
  have aT : a ∉ tb.map (tabA K) := fun z => by
    have q := isT a z
    rw [ha] at q
    have z' : Data.seq vs.toArray _ = Data.fields #[] := congrArg Obj.data (Option.some.inj q)
    cases z'
  have atT : ∀ p ∈ tb, H (tabA K p) = some (.tbl #[]) := fun p hp => by
    rw [hH, if_pos (List.mem_map.mpr ⟨p, hp, rfl⟩)]
  have hAH : ∀ b, H b ≠ none → b = a ∨ b ∈ tb.map (tabA K) := fun b hb => by
    by_cases h : b ∈ tb.map (tabA K)
    · exact .inr h
    · rw [hH, if_neg h] at hb; exact .inl (hA b hb)
  have noD : ∀ {b : Addr} {o : Obj}, s0.heap.get? b = some o → (∀ vs n, o.data ≠ .seq vs n) → o.data ≠ .fields #[] → H b = none := fun {b o} e h1 h2 => by
    cases q : H b with
    | none => rfl
    | some u =>
      rcases hAH b (by rw [q]; simp) with e' | e'
      · rw [e', ha] at e; cases e; exact (h1 _ _ rfl).elim
      · rw [isT b e'] at e; cases e; exact (h2 rfl).elim
  have noA : ∀ {b : Addr} {o : Obj} {es : Array DictEntry} {ep : Nat}, s0.heap.get? b = some o → o.data = .dict es ep → H b = none := fun {b o es ep} e d => noD e (fun vs n z => by rw [d] at z; cases z) fun z => by rw [d] at z; cases z
  have same : ∀ {b : Addr} {m : Str → Option Value}, s0.heap.Ns b m → (hidT s0.heap H).Ns b m := fun ⟨o, es, n, e, d, r⟩ => ⟨o, es, n, hidT_get e (noA e d), d, r⟩
  have inB : K.In (hidT s0.heap H) := fun b o e => hidT_get (KX b o e) (by
    cases q : H b with
    | none => rfl
    | some u =>
      rcases hAH b (by rw [q]; simp) with e' | e'
      · subst e'
        rw [hH, if_neg aT] at q
        rw [hK (by rw [q]; exact fun z => by cases z)] at e
        cases e
      · obtain ⟨p, hp, ep⟩ := List.mem_map.mp e'
        rw [← ep, nT p hp] at e
        cases e)
  have M : Mod K mg (hidT s0.heap H) := ⟨inB, same hns, ⟨mb, same hb, hbb⟩, let ⟨mc, h1, h2⟩ := hlim; ⟨mc, same h1, h2⟩⟩
  have TB : TabsOk K (hidT s0.heap H) mg tb := fun p hp => by
    have hTp := hT p hp
    refine ⟨?_, ?_, fun z => ?_⟩
    · obtain ⟨o, us, file, tf, flags, tg, inF, text, tt, e1, r1, r2, r3, r4, r5, r6, r7, r8, hne⟩ := C p hp
      refine ⟨o, us, file, tf, flags, tg, inF, text, tt, hidT_get e1 (noD e1 (fun vs n z => ?_) fun z => ?_), r1, r2, r3, r4, r5, r6, r7, r8, hne⟩
      · rw [r2] at z; cases z
      · rw [r2] at z; cases z; simp at r3
    · obtain ⟨bm, ob, b1, b2, b3, b4, b5, b6⟩ := hbm
      have nG : bm ≠ mainGlobals := fun q => by
        obtain ⟨o, es, ep, e, hd, _⟩ := hns
        rw [q, e] at b3; cases b3; rw [hd] at b6; cases b6
      have nP : bm ≠ tabA K p := fun q => by rw [q, hTp] at b3; cases b3; cases b6
      refine ⟨bm, ob, b1, b2, nG, nP, hidT_get b3 (noD b3 (fun vs n z => ?_) fun z => ?_), b4, b5, b6⟩
      · rw [b6] at z; cases z
      · rw [b6] at z; cases z
    · obtain ⟨o, es, ep, e, hd, _⟩ := hns
      rw [z] at e
      rw [show (He.cT K (p.1, none)).2 = tabA K p from rfl, hTp] at e
      cases e; cases hd
  have none0 : ∀ b : Addr, b ∉ frs [] := fun b z => by cases z
  have e0 : Env0 P w K mg (hidT s0.heap H) callerA [] s0 H := ⟨rfl, M, fun b o e => of_hidT e, Nat.le_of_eq (hidT_size _ _), trivial, fun b z => absurd z (none0 b), hok, .of_eq hg⟩
  obtain ⟨st, hsem⟩ := hsem
  have FT : ∀ b, b ∈ tb.map (tabA K) → FF b = none := fun b hb => by
    cases q : FF b with
    | none => rfl
    | some u => exact absurd (hA b (by rw [q]; exact fun z => by cases z)) fun e => aT (e ▸ hb)
  have sub : Same FF H := fun b u e => by
    rw [hH, if_neg (fun hb => by rw [FT b hb] at e; cases e)]; exact e
  have sp : spF ⟨K, w⟩ mg sem [.ref a] H (fun v _ => v = .bl true) (fun _ _ _ => False) := by
    refine ⟨[.s ns], tb.map fun p => tabC p.1 p.2, tb.map (tabA K), FF, .cons ⟨a, rfl, hS⟩ .nil, ⟨hnd, by simp, fun i b c z _ _ => FT b (List.mem_of_getElem? z), sub, fun i c z => ?_⟩, ?_⟩
    · rw [List.getElem?_map] at z
      cases q : tb[i]? with
      | none => rw [q] at z; cases z
      | some p =>
        rw [q] at z; cases z
        refine ⟨tabA K p, .tbl #[], by rw [List.getElem?_map, q]; rfl, atT p (List.mem_of_getElem? q), .inl ⟨rfl, fun y r e => ?_⟩⟩
        unfold tabC at e
        injection e with e; injection e with e _; injection e with _ e; injection e with e
        injection e with e1 e2; injection e2 with e2 _; injection e1 with e1; injection e2 with e2
        subst e1 e2
        exact ⟨rfl, #[], rfl, trivial, fun pos cv h => by
          have z : codeAmong pos [] = some cv := h
          simp [codeAmong] at z⟩
    · rw [hsem]
      intro v μ' F' H' o
      cases (show Dq ⟨K, w⟩ F' v (.bool true) from o.rok)
      rfl
  refine codeAny_mono ((F _ inB (same hns) TB).run callerA [] s0 H ⟨[.ref a], []⟩ [.ref a] [.ref a] _ _ hr e0 (hbind s0 (.ref a)) (.cons rfl .nil) sp) fun r s' h => ?_
  cases r with
  | error e =>
    obtain ⟨_, _, _, _, _, _, _, _, _, _, _, _, z⟩ := h
    exact z.elim
  | ok fl =>
    cases fl with
    | ret u =>
      obtain ⟨v, H', os, bare, un, hok', rv, q⟩ := h
      cases (show v = .bl true from q)
      cases (show u = Value.bool true from rv)
      have key : ∀ b o, b ∉ tb.map (tabA K) → s0.heap.get? b = some o → s'.heap.get? b = some o := fun b o nb e => by
        cases q : H b with
        | none => exact un.keep b o e q (none0 b) (by simp)
        | some u =>
          rcases hO b with z | ⟨ob, xs, z⟩
          · rw [hH, if_neg nb, z] at q; cases q
          · have z : H b = some (.frz ob (.lst xs)) := by rw [hH, if_neg nb]; exact z
            obtain ⟨e1, _⟩ := hok b _ z
            obtain ⟨e2, _⟩ := hok' b _ (un.frzs b ob _ z)
            rw [e] at e1; cases e1
            exact e2
      have grown : ∀ p ∈ tb, ∃ more : Array Value, s'.heap.get? (tabA K p) = some { cls := .none, data := .fields more } := fun p hp => by
        obtain ⟨more, z⟩ := un.tbls (tabA K p) #[] (atT p hp)
        exact ⟨_, hok' _ _ z⟩
      refine ⟨rfl, ⟨fun b o e => ?_, fun b o e => ?_⟩, os, bare⟩
      · by_cases hb : b ∈ tb.map (tabA K)
        · obtain ⟨p, hp, ep⟩ := List.mem_map.mp hb
          obtain ⟨more, hm⟩ := grown p hp
          rw [← ep] at e ⊢
          rw [hT p hp] at e; cases e
          exact .inr (.inl ⟨((C p hp).tab (hT p hp)).isCodeTable, rfl, #[], more, rfl, by rw [Array.empty_append]; exact hm⟩)
        · exact .inl (key b o hb e)
      · by_cases hb : b ∈ tb.map (tabA K)
        · obtain ⟨p, hp, ep⟩ := List.mem_map.mp hb
          obtain ⟨more, hm⟩ := grown p hp
          rw [← ep]
          exact ⟨_, hm⟩
        · exact ⟨o, key b o hb e⟩
    | next => exact False.elim h
    | brk => exact False.elim h
    | cont => exact False.elim h
theorem law_anyT (KX : K.In s0.heap) (hns : s0.heap.Ns mainGlobals mg) (hb : s0.heap.Ns builtinsNs mb) (hbb : ∀ y : Str, y ≠ "__name__" → mb y = bootBuiltins y) (hlim : s0.heap.NoLimit) (hg : s0.gens = #[])
    (hT : ∀ p ∈ tb, s0.heap.get? (tabA K p) = some { cls := .none, data := .fields #[] }) (nT : ∀ p ∈ tb, K.lookup (tabA K p) = none) (C : ∀ p ∈ tb, CodeHd s0.heap (He.cT K (p.1, none)).1 (tabA K p)) (hnd : (tb.map (tabA K)).Nodup)
    (hbm : ∃ (bm : Addr) (ob : Obj), mg "__builtins__" = some (.ref bm) ∧ bm ≠ builtinsNs ∧ s0.heap.get? bm = some ob ∧ ob.cls = .type "module" ∧ ob.dict = some builtinsNs ∧ ob.data = .plain)
    (ha : s0.heap.get? a = some { cls := .type "list", data := .seq vs.toArray }) (hi : IntsAre vs ns) (hl : ns.length ≤ sizeLine) (hr : Rm k callerA)
    (F : ∀ base : Heap, K.In base → base.Ns mainGlobals mg → TabsOk K base mg tb → FnC P w K mg base k fa fd [x] sem) (hbind : ∀ (s : Shared) (u : Value), BindsTo s fd ⟨[u], []⟩ [(x, u)])
    (hsem : ∃ st, sem [.s ns] (tb.map fun p => tabC p.1 p.2) = .ok (.d (.bool true)) st) :
    codeAny (model P w) callerA (.call (.ref fa) ⟨[.ref a], []⟩) (fun r s' => r = .ok (.ret (.bool true)) ∧ OldK s0.heap s'.heap ∧ s'.os = s0.os ∧ AllBare s'.gens) s0 := by
  have rv := vals_ints hi
  have hl2 : (ns.map V.int).length ≤ sizeLine := by rw [List.length_map]; exact hl
  have isT : ∀ b : Addr, b ∈ tb.map (tabA K) → s0.heap.get? b = some { cls := .none, data := .fields #[] } := fun b hb => by
    obtain ⟨p, hp, e⟩ := List.mem_map.mp hb
    rw [← e]; exact hT p hp
  have go := fun FF => law_coreT (ns := ns) KX hns hb hbb hlim hg hT nT C hnd hbm ha hr F hbind FF (fun b => if b ∈ tb.map (tabA K) then some (.tbl #[]) else FF b) (fun _ => rfl)
  cases hk : K.lookup a with
  | some o =>
    have e := KX a o hk
    rw [ha] at e; cases e
    refine go (fun _ => none) (fun _ => .inl rfl) (.inr ⟨_, vs.toArray, _, hk, rfl, rfl, rfl, by rw [List.size_toArray, ← rv.length]; exact hl2, by simpa using rv⟩) (fun b u z => ?_) (fun b z => absurd rfl z) (fun z => absurd rfl z) hsem
    by_cases hb : b ∈ tb.map (tabA K)
    · have z' := (if_pos hb).symm.trans z; cases z'; exact isT b hb
    · have z' := (if_neg hb).symm.trans z; cases z'
  | none =>
    have at1 : (fun b => if b = a then some (HO.frz { cls := .type "list", data := .seq vs.toArray } (.lst (ns.map V.int))) else none) a = some (HO.frz { cls := .type "list", data := .seq vs.toArray } (.lst (ns.map V.int))) := if_pos rfl
    have at2 : ∀ {b u}, (fun b => if b = a then some (HO.frz { cls := .type "list", data := .seq vs.toArray } (.lst (ns.map V.int))) else none) b = some u → b = a ∧ u = HO.frz { cls := .type "list", data := .seq vs.toArray } (.lst (ns.map V.int)) := fun {b u} z => by
      by_cases h : b = a
      · exact ⟨h, by have z' := (if_pos h).symm.trans z; cases z'; rfl⟩
      · have z' := (if_neg h).symm.trans z; cases z'
    refine go (fun b => if b = a then some (.frz { cls := .type "list", data := .seq vs.toArray } (.lst (ns.map V.int))) else none) (fun b => ?_) (.inl (.inr ⟨_, at1⟩)) (fun b u z => ?_) (fun b z => ?_) (fun _ => hk) hsem
    · by_cases h : b = a
      · exact .inr ⟨_, _, if_pos h⟩
      · exact .inl (if_neg h)
    · by_cases hb : b ∈ tb.map (tabA K)
      · have z' := (if_pos hb).symm.trans z; cases z'; exact isT b hb
      · have z1 := (if_neg hb).symm.trans z
        obtain ⟨rfl, rfl⟩ := at2 z1
        exact ⟨ha, hl2, vs, _, rv, ha⟩
    · by_cases h : b = a
      · exact h
      · exact absurd (if_neg h) z
theorem law_walkT {l : OpenLaw} {n k : Nat} {q : Program} {loose : List Str} {XP : (Str → Option Value) → Heap → Prop} {YP : World → Heap → Prop} {d : DefRec} {x : Str} {sem : Fs} {tb : List (Str × Str)}
    (hn : l.most = some n) (hn2 : n ≤ sizeLine) (hdf : d.params.defaults = []) (hr : Rm k callerA)
    (F : ∀ (w : World) (mg : Str → Option Value) (fa : Addr) (h : Heap), YP w h → h.Ns mainGlobals mg → mg d.name = some (.ref fa) →
      ∃ (K : Frag) (fd : FuncData), K.In h ∧ (∀ p ∈ tb, h.get? (tabA K p) = some { cls := .none, data := .fields #[] }) ∧ (∀ p ∈ tb, K.lookup (tabA K p) = none) ∧ (∀ p ∈ tb, codeHdIn K (He.cT K (p.1, none)).1 (tabA K p) = true) ∧ (tb.map (tabA K)).Nodup ∧
        (∀ (s : Shared) (u : Value), BindsTo s fd ⟨[u], []⟩ [(x, u)]) ∧ ∀ base : Heap, K.In base → base.Ns mainGlobals mg → TabsOk K base mg tb → FnC l.prog w K mg base k fa fd [x] sem)
    (hsem : ∀ ns : List Int, ns.length ≤ n → ∃ st, sem [.s ns] (tb.map fun p => tabC p.1 p.2) = .ok (.d (.bool true)) st) : WalkO q loose XP YP l.row.toRowW d [] (fun f vs => PySem.call f vs) := by
  refine Att.attach_callB hn hdf fun w s₀ s₁ mg mb fa o pm cd doc a vs ns G Y ho hd hcd hmg hobj hints hlen hbits hg => ?_
  obtain ⟨K, fd, KX, hT, nT, C, hnd, hb, hF⟩ := F w mg fa _ Y G.T.g hmg
  exact law_anyT KX G.T.g G.T.b G.T.builtins G.T.nolimit hg hT nT (fun p hp => codeHd_of_K KX (C p hp)) hnd G.T.bmain hobj hints (Nat.le_trans hlen hn2) hr hF hb (hsem ns hlen)
end
/-! ### the hook -/
structure SaysL (fb : List Fb) (fn : List He.DefD) (ts : List He.Tab) (tb : List (Str × Str)) (w : World) (h : Heap) (K : PySem.W.Frag) : Prop where
  t : SaysXT fb fn ts w K
  hd : ∀ p ∈ tb, PySem.W.codeHdIn K (He.cT K (p.1, none)).1 (tabA K p) = true
  out : ∀ p ∈ tb, K.lookup (tabA K p) = none
  empty : ∀ p ∈ tb, h.get? (tabA K p) = some { cls := .none, data := .fields #[] }
  nd : (tb.map (tabA K)).Nodup
abbrev AlL : Type := AlX × Bool
def tabsL (g : Addr → Option Obj) (tb : List (Str × Str)) (K : PySem.W.Frag) : Bool := He.tabsB g (tb.map fun p => (p.1, none)) K && decide ((tb.map (tabA K)).Nodup)
def obsL (n : Nat) (fb : List Fb) (fn : List He.DefD) (ts : List He.Tab) (tb : List (Str × Str)) (g : Addr → Option Obj) : AlL := (obsXT fb fn ts (He.frT g (sysModules :: He.asD g n)), tabsL g tb (He.frT g (sysModules :: He.asD g n)))
theorem saysL_of {n : Nat} {fb : List Fb} {fn : List He.DefD} {ts : List He.Tab} {tb : List (Str × Str)} {w : World} {h : Heap} (e : obsL n fb fn ts tb h.get? = (valXT fn ts w, true)) : SaysL fb fn ts tb w h (He.frT h.get? (sysModules :: He.asD h.get? n)) := by
  have e1 : obsXT fb fn ts (He.frT h.get? (sysModules :: He.asD h.get? n)) = valXT fn ts w := congrArg (fun z : AlL => z.1) e
  have e2 : tabsL h.get? tb (He.frT h.get? (sysModules :: He.asD h.get? n)) = true := congrArg (fun z : AlL => z.2) e
  obtain ⟨h1, h2⟩ := He.ba e2
  have key : ∀ p ∈ tb, PySem.W.codeHdIn (He.frT h.get? (sysModules :: He.asD h.get? n)) (He.cT (He.frT h.get? (sysModules :: He.asD h.get? n)) (p.1, none)).1 (tabA (He.frT h.get? (sysModules :: He.asD h.get? n)) p) = true ∧ ∃ o, h.get? (tabA (He.frT h.get? (sysModules :: He.asD h.get? n)) p) = some o ∧ He.emptyTab o = true := fun p hp => by
    obtain ⟨h3, h4⟩ := He.ba (List.all_eq_true.mp h1 (p.1, none) (List.mem_map.mpr ⟨p, hp, rfl⟩))
    refine ⟨h3, ?_⟩
    cases q : h.get? (tabA (He.frT h.get? (sysModules :: He.asD h.get? n)) p) with
    | none => rw [q] at h4; cases h4
    | some o => rw [q] at h4; exact ⟨o, rfl, h4⟩
  exact ⟨e1, fun p hp => (key p hp).1, fun p hp => by
    obtain ⟨_, o, q, z⟩ := key p hp
    exact He.frT_none q z, fun p hp => by
    obtain ⟨_, o, q, z⟩ := key p hp
    rw [q, He.emptyTab_eq z], of_decide_eq_true h2⟩
def hookL (n : Nat) (fb : List Fb) (fn : List He.DefD) (ts : List He.Tab) (tb : List (Str × Str)) : PySem.W.Hook where
  α := AlL
  obs := fun s => obsL n fb fn ts tb s.heap.get?
  val := fun w => (valXT fn ts w, true)
  says := fun w h => ∃ K : PySem.W.Frag, K.In h ∧ SaysL fb fn ts tb w h K
  of := fun _ _ e => ⟨_, He.frT_in, saysL_of e⟩
  keeps := fun _ _ _ ⟨K, hK, c⟩ k => ⟨K, PySem.W.Frag.In.keeps hK k, ⟨c.t, c.hd, c.out, fun p hp => k _ _ (c.empty p hp), c.nd⟩⟩
theorem obsL_eq {n : Nat} {fb : List Fb} {fn : List He.DefD} {ts : List He.Tab} {tb : List (Str × Str)} {g : Addr → Option Obj} {s : Shared} (h : ∀ a, g a = s.heap.get? a) : obsL n fb fn ts tb g = (hookL n fb fn ts tb).obs s := by
  have e : g = s.heap.get? := funext h
  rw [e] <;> rfl
/-! ### a def that makes lambdas -/
section
variable {P : Program} {w : World} {K : PySem.W.Frag} {mg : Str → Option Value} {base : Heap} {k : Nat} {x : Str} {N ps : List Str} {sb : Sv} {st : Stmt}
theorem cd_of {f : Addr} {fd : FuncData} (F : FunD K x x (defArgs st) (defBody st) (defScope st) [] [] f fd) (hf : f = He.ga K x) {oc : Value} {od : Option Addr} {osl : Array (Option Value)} (lk : K.lookup f = some ⟨oc, od, .func fd, osl⟩) (hcd : PySem.W.codeIn K fd.code x = true) : fd.code = .ref (He.cT K (x, none)).1 := by
  obtain ⟨c, hc⟩ := He.codeIn_ref hcd
  subst hf
  rw [hc, show (He.cT K (x, none)).1 = He.codeOf K (x, none) from rfl, He.codeOf_eq (p := (x, none)) (c := c) lk hc]
theorem fn_defT {f : Addr} {fd : FuncData} (F : FunD K x x (defArgs st) (defBody st) (defScope st) [] [] f fd) (hf : f = He.ga K x) (S : FnScope N ps (defScope st))
    (body : ∀ (cdv : Value) (f : Addr) (A : Around) (outer : List Env) (s : Shared) (H : Hp) (E : XK), cdv = .ref (He.cT K (x, none)).1 → Bd k (cxOf (L2.CX P w) P w K mg base N x (defScope st) f cdv A outer s H E) (Cn.ofE ⟨K, w⟩ mg E) →
      PSs (cxOf (L2.CX P w) P w K mg base N x (defScope st) f cdv A outer s H E) (defBody st) (tS (Cn.ofE ⟨K, w⟩ mg E) sb)) : FnC P w K mg base (k + 1) f fd ps (bodyF N.length ps.length sb) := by
  obtain ⟨oc, od, dV, kV, doc, pm, an, cdv, ct, osl, rfl, lk, hcd, hD, hK⟩ := id F.ex
  have hc := cd_of F hf lk hcd
  have hlen : ∀ vs H Q E, spF ⟨K, w⟩ mg (bodyF N.length ps.length sb) vs H Q E → vs.length = ps.length := fun vs H Q E ⟨args, st, μ, F, a, b, c⟩ => by
    unfold bodyF at c
    by_cases hl : args.length = ps.length
    · rw [← a.length, hl]
    · rw [if_neg hl] at c; exact False.elim c
  rcases hD with ⟨_, rfl⟩ | ⟨e, _⟩
  · exact ⟨hlen, fun A outer s H args us vs Q E hr e0 hbd r hsp => run_of (st := st) lk S hr e0 hbd r hcd hsp fun B => body cdv f A outer s H E hc B⟩
  · exact absurd rfl e
theorem kn_defT (D : Df K mg x st) (hg : mg x = some (.ref (He.ga K x))) (S : FnScope N ps (defScope st))
    (hb : ∀ (kV doc pm : Value) (an : Option Addr) (cdv ct : Value) (us : List Value), us.length = ps.length → bindArgs (PySem.W.fnOf x x (defArgs st) (defBody st) (defScope st) .none kV doc pm an cdv ct) ⟨us, []⟩ = pure (ps.zip us))
    (body : ∀ (cdv : Value) (f : Addr) (A : Around) (outer : List Env) (s : Shared) (H : Hp) (E : XK), cdv = .ref (He.cT K (x, none)).1 → Bd k (cxOf (L2.CX P w) P w K mg base N x (defScope st) f cdv A outer s H E) (Cn.ofE ⟨K, w⟩ mg E) →
      PSs (cxOf (L2.CX P w) P w K mg base N x (defScope st) f cdv A outer s H E) (defBody st) (tS (Cn.ofE ⟨K, w⟩ mg E) sb)) : Kn P w K mg base x (k + 1) (bodyF N.length ps.length sb) := by
  obtain ⟨f, fd, F, hm⟩ := D
  have e : f = He.ga K x := by rw [hm] at hg; cases hg; rfl
  exact ⟨f, fd, ps, hm, F.kp, F.bindsN hb, fn_defT F e S body⟩
end
end Cp
/-! Ck: xs.pop(i), dict(pairs), a thunk that takes a dict's cell along. -/
namespace Cp
open PySem L2
section
variable {X : Cx} {C : Cn} {o e a : Expr} {mo ma : Ev} {apos cpos pos p : Pos}
/-- xs.pop(i), i from 0 on -/
def mPopA (mo ma : Ev) : Ev := fun ρ st => (mV mo ρ st).bind fun x s1 => match lstAt s1 x with
  | none => .no
  | some _ => (mV ma ρ s1).bind fun y s2 => match x, y, lstAt s2 x with
    | .c k, .d (.int i), some xs => if 0 ≤ i ∧ i < xs.length ∧ xs.length ≤ sizeLine then (match xs[i.toNat]? with
      | some d => .ok (.d d) (s2.set k (.l (xs.eraseIdx i.toNat)))
      | none => .no) else .no
    | _, _, _ => .no
theorem DqAll.erase {K : Kw} {F : Hp} : ∀ {vs : List V} {ds : List PyData} (n : Nat), DqAll K F vs ds → DqAll K F (vs.eraseIdx n) (ds.eraseIdx n)
  | _, _, _, .nil => .nil
  | _, _, 0, .cons _ t => t
  | _, _, n + 1, .cons h t => .cons h (t.erase n)
theorem s_popA (h : PE X e (tBM X.K "list" rPopAt (tV C (mV mo)) (tCons (tV C (mV ma)) tNil))) : PE X e (tM C (mPopA mo ma)) :=
  h.imp fun σ H Q ⟨ρ, st, μ, F, h1, h2, h3⟩ => ⟨ρ, st, μ, F, h1, h2, Post.bindV gE_lat h3 fun x s v μ1 F1 H1 x1 r1 k1 h4 => by
    cases q : lstAt s x with
    | none => simp only [q] at h4; exact False.elim h4
    | some zs =>
      simp only [q] at h4
      obtain ⟨i, pp, ys, rfl, rfl, g1, g2, g3⟩ := lstAt_ok r1 k1 q
      refine ⟨.inl ⟨rfl, _, SqL.of g2⟩, ρ, s, μ1, F1, h1.ext x1, r1, Post.bindV gE_lat h4 fun y s2 u μ2 F2 H2 x2 r2 k2 h5 => ?_⟩
      have k1' := k1.ext x2
      cases q2 : lstAt s2 (.c i) with
      | none => simp only [q2] at h5; cases y with
        | d y => cases y <;> exact False.elim h5
        | _ => exact False.elim h5
      | some ws =>
        cases y with
        | d y =>
          cases y with
          | int j =>
            simp only [q2] at h5
            by_cases hj : 0 ≤ j ∧ j < ws.length ∧ ws.length ≤ sizeLine
            case neg => rw [if_neg hj] at h5; exact False.elim h5
            rw [if_pos hj] at h5
            obtain ⟨j0, j1, j2⟩ := hj
            cases q3 : ws[j.toNat]? with
            | none => simp only [q3] at h5; exact False.elim h5
            | some d =>
              simp only [q3] at h5
              obtain ⟨i', pp', ys', e1, e2, g1', g2', g3'⟩ := lstAt_ok r2 k1' q2
              cases e1
              cases e2
              have eu : u = .int j := by cases (show Dq C.K F2 u (.int j) from k2); rfl
              subst eu
              obtain ⟨v', g4, g5⟩ := g3'.get q3
              obtain ⟨w1, w2⟩ := r2.write (c := .l (ws.eraseIdx j.toNat)) (o := .lst (ys'.eraseIdx j.toNat)) g1' ⟨_, rfl, g3'.erase _⟩ (lstAt_get q2)
              have hsz : sizeLine = 16777216 := by decide
              refine ⟨_, _, j, j.toNat, v', rfl, rfl, g2', by omega, by omega, ?_, g4, h5 v' _ _ _ ⟨w2, w1, g5, fun _ z => nomatch z⟩⟩
              unfold seqIndex?
              rw [g3'.length]
              simp only [if_neg (show ¬ j < 0 by omega)]
              rw [if_pos (by simp only [Bool.and_eq_true, decide_eq_true_eq]; exact ⟨j0, j1⟩)]
          | _ => simp only [q2] at h5; exact False.elim h5
        | _ => simp only [q2] at h5; exact False.elim h5⟩
theorem y_popA {o : Expr} {cpos : Pos} (ho : PE X o (tM C mo)) (he : PE X e (tM C ma)) (hbase : attributeBase o "pop" X.env (eval o X.env) = eval o X.env := by rfl)
    (hfew : ((backTo cpos (starEach [e] X.env)).all (fun x => !x.1) && (backToKw cpos (keywordEach [] X.env)).all (fun x => x.1.isSome) && decide ([e].length + ([] : List Keyword).length + (if ([] : List Keyword).isEmpty then 0 else 1) < 30)) = true := by rfl)
    (hline : (apos.endLine == cpos.line) = true := by rfl) (hs : starEach [e] X.env = (false, eval e X.env) :: starEach [] X.env := by rfl) (hpl : NA X [] cpos := by rfl) : PE X (.Call (.Attribute o "pop" apos) [e] [] cpos) (tM C (mPopA mo ma)) :=
  s_popA (pe_bm PySem.F.plainAttrs_list PySem.F.slot_list_pop PySem.F.type_list_pop mt_popAt (pv_frz ho) (pa_cons (pv_frz he) pa_nil hs) hbase hfew hline hs hpl)
end
/-! ### dict(pairs) -/
def keyOfD : PyData → Option Key
  | .int i => some (.inl i)
  | .str x => some (.inr x)
  | _ => none
theorem keyOfD_ok {d : PyData} {k : Key} (h : keyOfD d = some k) : d = kD k := by
  cases d <;> first | (cases h; rfl) | cases h
def pairsD : List PyData → Option (List (PyData × PyData))
  | [] => some []
  | .tuple [k, v] :: r => if (keyOfD k).isSome then (pairsD r).map ((k, v) :: ·) else none
  | _ => none
def fDictP : PyData → Option Rv
  | .list ds => (pairsD ds).map fun kvs => .n (.m (mergeD [] kvs))
  | _ => none
section
variable {K : Kw} {F H : Hp}
theorem dict_pairs (sub : Same F H) : ∀ {ds : List PyData} {xs : List V} {kvs : List (PyData × PyData)}, DqAll K F xs ds → pairsD ds = some kvs →
    ∃ (ps : List Addr) (us : List (Key × V)), xs = ps.map V.ref ∧ Paired (fun p kv => SqT K H p [kV kv.1, kv.2]) ps us ∧ DqKv K F us kvs
  | [], _, _, .nil, e => by cases e; exact ⟨[], [], rfl, .nil, .nil⟩
  | d :: r, _, kvs, .cons h t, e => by
    unfold pairsD at e
    split at e
    · rename_i e'; cases e'
    · rename_i k v r' e'
      injection e' with e1 e2
      subst e1 e2
      split at e
      · rename_i hk
        obtain ⟨kk, hk⟩ := Option.isSome_iff_exists.mp hk
        cases keyOfD_ok hk
        obtain ⟨kvs', e3, rfl⟩ := Option.map_eq_some_iff.mp e
        obtain ⟨ps, us, rfl, g1, g2⟩ := dict_pairs sub t e3
        cases h with
        | @tup a ys _ f1 f2 =>
          cases f2 with
          | @cons x _ _ _ a1 a2 =>
            cases a2 with
            | @cons y _ _ _ b1 b2 =>
              cases b2
              have ex : x = kV kk := by cases kk <;> (cases a1; rfl)
              subst ex
              exact ⟨a :: ps, (kk, y) :: us, rfl, .cons (SqT.of (sub _ _ f1)) g1, .cons b1 g2⟩
      · cases e
    · cases e
end
section
variable {X : Cx} {C : Cn} {es : List Expr} {e : Expr} {mas : En → Sto → Res (List Vl)} {k : Nat} {x : Str} {p pos : Pos}
def rDictP (K : PySem.W.Frag) : List V → Hp → VK → Prop := fun xs H Q => ∃ (a : Addr) (ps : List Addr) (kvs : List (Key × V)), xs = [.ref a] ∧ SqL K H a (ps.map V.ref) ∧ Paired (fun p kv => SqT K H p [kV kv.1, kv.2]) ps kvs ∧ ∀ p, H p = none → Q (.ref p) (upd H p (.dK (mergeK [] kvs)))
theorem fDictP_ok : CallOk C (rDictP C.K) (g1 fDictP) := g1_ok fun d res v μ F H st Q s w e p => by
  cases d with
  | list ys =>
    obtain ⟨a, xs, rfl, p1, p2⟩ := w
    obtain ⟨kvs, e1, rfl⟩ := Option.map_eq_some_iff.mp e
    obtain ⟨ps, us, rfl, g1, g2⟩ := dict_pairs s.sub p2 e1
    exact ⟨a, ps, us, rfl, SqL.of p1, g1, fun q hq => fin_n s p hq (.inl ⟨_, rfl, merge_flat g2 .nil⟩)⟩
  | _ => cases e
theorem k_dictP (B : Bd k X C) (hg : Gl X "dict") (hm : X.mg "dict" = none) (ha : PA X [e] (tAs C mas)) (he : starEach [e] X.env = (false, eval e X.env) :: starEach [] X.env := by rfl) (hpl : NA X [] pos := by rfl) : PE X (.Call (.Name "dict" p) [e] [] pos) (tM C (mCal (g1 fDictP) mas)) := by
  have ok : CallOk C (rDictP X.K) (g1 fDictP) := by rw [← B.hK]; exact fDictP_ok
  exact s_callTy (call_dictP B.cm) ok hg hm (by decide +kernel) ha (by decide) (by decide) he hpl
end
end Cp
/-! Ckz: list(zip(xs, ys)) of two lists. -/
namespace Cp
open PySem PySem.W PySem.Calls PyProof.Rows L2
/-- the pairs lie there, one after the other, above lo -/
structure ZilG (xs ys : Array Value) (lo : Addr) (h : Heap) (as : List Addr) : Prop where
  rise : as.Pairwise (· < ·)
  above : ∀ a ∈ as, lo < a
  pairs : ∀ (j : Nat) (a : Addr), as[j]? = some a → ∃ x y, xs[j]? = some x ∧ ys[j]? = some y ∧ h.get? a = some { cls := .type "tuple", data := .seq #[x, y] }
theorem ZilG.there {xs ys : Array Value} {lo : Addr} {h : Heap} {as : List Addr} (g : ZilG xs ys lo h as) {a : Addr} (ha : a ∈ as) : a < h.objs.size := by
  obtain ⟨j, hj⟩ := List.mem_iff_getElem?.mp ha
  obtain ⟨_, _, _, _, e⟩ := g.pairs j a hj
  exact Heap.lt_size e
theorem lo5 {b N : Nat} (h : b < N) : b ≠ N ∧ b ≠ N + 1 ∧ b ≠ N + 3 ∧ b ≠ N + 4 ∧ b ≠ N + 5 := by omega
theorem hi5 {b N : Nat} (h : N + 5 < b) : b ≠ N ∧ b ≠ N + 1 ∧ b ≠ N + 3 ∧ b ≠ N + 4 ∧ b ≠ N + 5 := by omega
theorem at5 (N : Nat) : N + 5 ≠ N ∧ N + 5 ≠ N + 1 ∧ N + 5 ≠ N + 3 ∧ N + 5 ≠ N + 4 := by omega
def ZSt (h : Heap) (N : Nat) (l1 l2 : Addr) (i : Nat) : Prop :=
  IsPair h (N + 2) (.ref N) (.ref (N + 1)) ∧ h.IsListIter N l1 i ∧ h.IsListIter (N + 1) l2 i ∧
    ((∃ a b, IsZip h (N + 4) (N + 2) (N + 3) .none ∧ IsPair h (N + 3) a b) ∨ ∃ T f oT, IsZipHeld h (N + 4) (N + 2) (N + 3) T f ∧ h.get? T = some oT ∧ N + 5 < T)
theorem ZSt.keep {h h' : Heap} {N : Nat} {l1 l2 : Addr} {i : Nat} (z : ZSt h N l1 l2 i) (k : ∀ b o, b ≠ N + 5 → h.get? b = some o → h'.get? b = some o) : ZSt h' N l1 l2 i := by
  obtain ⟨a1, a2, a3, a4⟩ := z
  refine ⟨k _ _ (by omega) a1, a2.at fun o e => k _ o (by omega) e, a3.at fun o e => k _ o (by omega) e, ?_⟩
  rcases a4 with ⟨a, b, c1, c2⟩ | ⟨T, f, oT, c1, c2, c3⟩
  · exact .inl ⟨a, b, k _ _ (by omega) c1, k _ _ (by omega) c2⟩
  · exact .inr ⟨T, f, oT, k _ _ (by omega) c1, k _ _ (by omega) c2, c3⟩
section
variable {prog : Program} {w : World} {A : Around} {E : Value → Shared → Prop} {s : Shared} {N : Nat} {l1 l2 : Addr} {xs ys : Array Value}
theorem zil_item {i : Nat} {Q : Option Value → Shared → Prop} (e1 : l1 < N) (e2 : l2 < N) (st : ZSt s.heap N l1 l2 i) (p1 : s.heap.IsList l1 xs) (p2 : s.heap.IsList l2 ys) (hi : i < xs.size) (hj : i < ys.size) (hs : N + 5 < s.heap.objs.size)
    (hQ : ∀ h', ZSt h' N l1 l2 (i + 1) → (∃ x y, xs[i]? = some x ∧ ys[i]? = some y ∧ h'.get? s.heap.objs.size = some { cls := .type "tuple", data := .seq #[x, y] }) → h'.objs.size = s.heap.objs.size + 1 →
      (∀ b o, b ≠ N → b ≠ N + 1 → b ≠ N + 3 → b ≠ N + 4 → s.heap.get? b = some o → h'.get? b = some o) → Q (some (.ref s.heap.objs.size)) { s with heap := h' }) :
    wpAny (model prog w) A (pyNext (.ref (N + 4))) Q E s := by
  have D := ktu_apart N l1 l2 e1 e2
  obtain ⟨a1, a2, a3, a4⟩ := st
  have hx : xs[i]? = some xs[i] := Array.getElem?_eq_getElem hi
  have hy : ys[i]? = some ys[i] := Array.getElem?_eq_getElem hj
  rcases a4 with ⟨a, b, c1, c2⟩ | ⟨T, f, oT, c1, c2, c3⟩
  · refine wpAny_pyNext_zip_item D c1 a1 c2 a2 a3 p1 p2 hx hy fun h' hz hTO h1 h2 hT hsz hk => hQ h' ⟨hk _ _ D.TIz D.TITO D.TIi1 D.TIi2 a1, h1, h2, .inr ⟨_, false, _, hz, hT, hs⟩⟩ ⟨_, _, hx, hy, hT⟩ hsz fun b o b1 b2 b3 b4 e => hk b o b4 b3 b1 b2 e
  · refine wpAny_pyNext_zip_item_held D c1 c2 a1 a2 a3 p1 p2 hx hy fun h' hz h1 h2 hT hsz hk => hQ h' ⟨hk _ _ D.TIz D.TIi1 D.TIi2 a1, h1, h2, .inr ⟨T, true, oT, hz, hk _ _ (Nat.ne_of_gt (by omega)) (Nat.ne_of_gt (by omega)) (Nat.ne_of_gt (by omega)) c2, c3⟩⟩ ⟨_, _, hx, hy, hT⟩ hsz fun b o b1 b2 b3 b4 e => hk b o b4 b1 b2 e
theorem zil_done {i : Nat} {Q : Option Value → Shared → Prop} (hh : A.handled = none) (e1 : l1 < N) (e2 : l2 < N) (st : ZSt s.heap N l1 l2 i) (p1 : s.heap.IsList l1 xs) (p2 : s.heap.IsList l2 ys) (hi : xs.size ≤ i ∨ ys.size ≤ i)
    (hQ : ∀ h', (∀ b o, b ≠ N → b ≠ N + 1 → b ≠ N + 3 → b ≠ N + 4 → s.heap.get? b = some o → h'.get? b = some o) → Q none { s with heap := h' }) :
    wpAny (model prog w) A (pyNext (.ref (N + 4))) Q E s := by
  have D := ktu_apart N l1 l2 e1 e2
  obtain ⟨a1, a2, a3, a4⟩ := st
  have he : xs[i]? = none ∨ ys[i]? = none := hi.imp (fun h => Array.getElem?_eq_none h) fun h => Array.getElem?_eq_none h
  rcases a4 with ⟨a, b, c1, c2⟩ | ⟨T, f, oT, c1, c2, c3⟩
  · exact wpAny_pyNext_zip_end hh D c1 a1 c2 a2 a3 p1 p2 he fun h' hk => hQ h' fun b o b1 b2 b3 b4 e => hk b o b4 b3 b1 b2 e
  · exact wpAny_pyNext_zip_end_held hh D c1 c2 a1 a2 a3 p1 p2 he fun h' hk => hQ h' fun b o b1 b2 b3 b4 e => hk b o b4 b1 b2 e
end
section
variable {prog : Program} {w : World} {A : Around} {s : Shared} {R : Result → Shared → Prop} {N : Nat} {l1 l2 : Addr} {xs ys : Array Value}
theorem zil_loop {n : Nat} (hh : A.handled = none) (e1 : l1 < N) (e2 : l2 < N) (hnx : n ≤ xs.size) (hny : n ≤ ys.size) (hend : xs.size ≤ n ∨ ys.size ≤ n) (hn : n ≤ sizeLine) (res : Value) {h₀ : Heap} (hN : h₀.objs.size = N) (p1 : h₀.IsList l1 xs) (p2 : h₀.IsList l2 ys)
    (hR : ∀ h' tk acc c as, (∀ b o, h₀.get? b = some o → h'.get? b = some o) → h'.get? (N + 5) = some { cls := .type "list", dict := none, data := .seq acc c, slots := #[] } → as.length = n → ZilG xs ys (N + 5) h' as →
      acc.toList = as.map Value.ref → R (.ok (.ret res)) { s with heap := h', toks := tk }) :
    ∀ (k i : Nat) (h : Heap) (tk c : Nat) (acc : Array Value) (as : List Addr), n - i = k → i ≤ n → ZSt h N l1 l2 i → (∀ b o, h₀.get? b = some o → h.get? b = some o) →
      h.get? (N + 5) = some { cls := .type "list", dict := none, data := .seq acc c, slots := #[] } → acc.toList = as.map Value.ref → as.length = i → ZilG xs ys (N + 5) h as →
      codeAny (model prog w) A (.builtin "list.extend.loop" ⟨[.ref (N + 5), .ref (N + 4), res], []⟩) R { s with heap := h, toks := tk } := by
  have lst : ∀ {h : Heap} {l : Addr} {zs : Array Value}, h₀.IsList l zs → (∀ b o, h₀.get? b = some o → h.get? b = some o) → h.IsList l zs := fun p k => let ⟨o, ho, r⟩ := p; ⟨o, k _ _ ho, r⟩
  have lt0 : ∀ b o, h₀.get? b = some o → b < N := fun b o e => hN ▸ Heap.lt_size e
  intro k
  induction k with
  | zero =>
    intro i h tk c acc as hk hi hst hkeep hS hacc hal hG
    have hin : i = n := by omega
    subst hin
    refine codeAny_builtin PySem.F.entry_extend_loop ?_
    rw [Around.under_plainId PySem.F.plain_extend_loop _]
    show wpAny _ A.in1 (pyNext (.ref (N + 4)) >>= _) _ _ _
    refine wpAny_bind (zil_done (s := { s with heap := h, toks := tk }) (A := A.in1) hh e1 e2 hst (lst p1 hkeep) (lst p2 hkeep) hend fun h' he => ?_)
    refine wpAny_pure (hR h' tk acc c as (fun b o e => ?_) (he _ _ (at5 N).1 (at5 N).2.1 (at5 N).2.2.1 (at5 N).2.2.2 hS) hal ⟨hG.rise, hG.above, fun j a hj => ?_⟩ hacc)
    · have q := lo5 (lt0 b o e)
      exact he b o q.1 q.2.1 q.2.2.1 q.2.2.2.1 (hkeep b o e)
    · obtain ⟨x, y, q1, q2, q3⟩ := hG.pairs j a hj
      have q := hi5 (hG.above a (List.mem_of_getElem? hj))
      exact ⟨x, y, q1, q2, he a _ q.1 q.2.1 q.2.2.1 q.2.2.2.1 q3⟩
  | succ k ih =>
    intro i h tk c acc as hk hi hst hkeep hS hacc hal hG
    have hlt : i < n := by omega
    have hsz : acc.size = i := by rw [← Array.length_toList, hacc, List.length_map, hal]
    have hSl : N + 5 < h.objs.size := Heap.lt_size hS
    refine codeAny_builtin PySem.F.entry_extend_loop ?_
    rw [Around.under_plainId PySem.F.plain_extend_loop _]
    show wpAny _ A.in1 (pyNext (.ref (N + 4)) >>= _) _ _ _
    refine wpAny_bind (zil_item (s := { s with heap := h, toks := tk }) e1 e2 hst (lst p1 hkeep) (lst p2 hkeep) (by omega) (by omega) hSl fun h' hst' ht hz hkp => ?_)
    dsimp only at ht hz hkp ⊢
    have hS' := hkp _ _ (at5 N).1 (at5 N).2.1 (at5 N).2.2.1 (at5 N).2.2.2 hS
    have up : ∀ b o, b ≠ N + 5 → h'.get? b = some o → (h'.update (N + 5) (Obj.mapSeq (·.push (Value.ref h.objs.size)))).get? b = some o := fun b o hb e => (Heap.get?_update_other _ _ (Ne.symm hb)).trans e
    show wpAny _ A.in1 (updateSeq (N + 5) (·.push (Value.ref h.objs.size)) >>= _) _ _ _
    refine wpAny_bind ?_
    refine wpAny_updateSeq hS' rfl (wpAny_pure ⟨plainId_quiet PySem.F.plain_extend_loop _, ih (i + 1) _ tk _ (acc.push (Value.ref h.objs.size)) (as ++ [h.objs.size]) (by omega) hlt (hst'.keep up)
      (fun b o e => ?_) (Heap.get?_update_self _ hS' rfl) (by rw [Array.toList_push, hacc, List.map_append]; rfl) (by rw [List.length_append, hal]; rfl) ⟨?_, ?_, ?_⟩⟩) (by rw [hsz]; omega) (by show (acc.push (Value.ref h.objs.size)).size ≤ sizeLine + 1; rw [Array.size_push, hsz]; omega)
    · have q := lo5 (lt0 b o e)
      exact up b o q.2.2.2.2 (hkp b o q.1 q.2.1 q.2.2.1 q.2.2.2.1 (hkeep b o e))
    · refine List.pairwise_append.mpr ⟨hG.rise, List.pairwise_singleton _ _, fun a ha b hb => ?_⟩
      rw [List.mem_singleton.mp hb]
      exact hG.there ha
    · intro a ha
      rcases List.mem_append.mp ha with ha | ha
      · exact hG.above a ha
      · rw [List.mem_singleton.mp ha]; exact hSl
    · intro j b hj
      rcases Nat.lt_trichotomy j as.length with h1 | h1 | h1
      · rw [List.getElem?_append_left h1] at hj
        obtain ⟨x, y, q1, q2, q3⟩ := hG.pairs j b hj
        have q := hi5 (hG.above b (List.mem_of_getElem? hj))
        exact ⟨x, y, q1, q2, up b _ q.2.2.2.2 (hkp b _ q.1 q.2.1 q.2.2.1 q.2.2.2.1 q3)⟩
      · subst h1
        have hb : h.objs.size = b := by simpa using hj
        subst hb
        obtain ⟨x, y, q1, q2, q3⟩ := ht
        subst hal
        exact ⟨x, y, q1, q2, up _ _ (hi5 hSl).2.2.2.2 q3⟩
      · have hnone : (as ++ [h.objs.size])[j]? = none := List.getElem?_eq_none (by rw [List.length_append, List.length_singleton]; omega)
        rw [hnone] at hj; cases hj
end
theorem zip_no_len : typeLookup (.type "zip") "__len__" = pure none := am_miss_of_fast (by decide +kernel)
theorem zip_no_hint : typeLookup (.type "zip") "__length_hint__" = pure none := am_miss_of_fast (by decide +kernel)
section
variable {prog : Program} {w : World} {A : Around} {E : Value → Shared → Prop} {s : Shared} {N : Nat} {l1 l2 : Addr} {xs ys : Array Value}
/-- list(z), z a new zip -/
theorem zil_call {n : Nat} {Q : Value → Shared → Prop} (hh : A.handled = none) (e1 : l1 < N) (e2 : l2 < N) (hnx : n ≤ xs.size) (hny : n ≤ ys.size) (hend : xs.size ≤ n ∨ ys.size ≤ n) (hn : n ≤ sizeLine) {h₀ : Heap} (hN : h₀.objs.size = N) (p1 : h₀.IsList l1 xs) (p2 : h₀.IsList l2 ys)
    (hs : s.heap.objs.size = N + 5) (hk : ∀ b o, h₀.get? b = some o → s.heap.get? b = some o) (st : ZSt s.heap N l1 l2 0)
    (hQ : ∀ h' tk acc c as, (∀ b o, h₀.get? b = some o → h'.get? b = some o) → h'.get? (N + 5) = some { cls := .type "list", dict := none, data := .seq acc c, slots := #[] } → as.length = n → ZilG xs ys (N + 5) h' as →
      acc.toList = as.map Value.ref → Q (.ref (N + 5)) { s with heap := h', toks := tk }) :
    wpAny (model prog w) A (call (.type "list") [.ref (N + 4)]) Q E s := by
  have lt0 : ∀ b o, h₀.get? b = some o → b < N := fun b o e => hN ▸ Heap.lt_size e
  have zty : ∀ {h : Heap} {i : Nat}, ZSt h N l1 l2 i → ∃ f0, IsZip h (N + 4) (N + 2) (N + 3) f0 ∨ ∃ f, h.get? (N + 4) = some { cls := .type "zip", dict := none, data := .fields #[f0, .bool f, .bool false, .ref (N + 2), .ref (N + 3)], slots := #[] } := fun z => by
    rcases z.2.2.2 with ⟨a, b, c1, c2⟩ | ⟨T, f, oT, c1, c2, c3⟩
    · exact ⟨_, .inl c1⟩
    · exact ⟨_, .inr ⟨f, c1⟩⟩
  have hz0 : ∃ a b, IsZip s.heap (N + 4) (N + 2) (N + 3) .none ∧ IsPair s.heap (N + 3) a b := by
    rcases st.2.2.2 with z | ⟨T, f, oT, c1, c2, c3⟩
    · exact z
    · exact absurd c3 (Nat.lt_asymm (hs ▸ Heap.lt_size c2))
  obtain ⟨pa, pb, hz, hTO⟩ := hz0
  refine callType_codes (Q₁ := fun obj s₁ => obj = .ref s.heap.objs.size ∧ s₁ = { s with heap := s.heap.push { cls := .type "list", data := .seq #[] } }) PySem.F.called_list (PySem.F.typeCall_list_1 _) PySem.F.entry_list_init
    (code_list_new _ ⟨rfl, rfl⟩) fun obj s₁ h₁ => ?_
  obtain ⟨rfl, rfl⟩ := h₁
  have hS : (s.heap.push { cls := .type "list", data := .seq #[] }).get? (N + 5) = some { cls := .type "list", data := .seq #[] } := by rw [← hs]; exact Heap.get?_push_size _ rfl
  rw [hs]
  refine ⟨⟨_, hS, rfl⟩, PySem.F.args_list_init_2 _ _, ?_⟩
  show wpAny _ A.in1.in1 (do let old ← Builtin.List.listItems (.ref (N + 5)); Builtin.List.listUpdate (.ref (N + 5)) (fun _ => #[]); letGo old.toList.reverse; Builtin.List.listExtendWith (.ref (N + 5)) (.ref (N + 4)) .none) _ _ _
  refine wpAny_bind ?_
  unfold Builtin.List.listItems
  refine wpAny_bind (wpAny_seqItems hS rfl (wpAny_pure ?_))
  show wpAny _ A.in1.in1 (updateSeq (N + 5) (fun _ => #[]) >>= fun _ => letGo (#[] : Array Value).toList.reverse >>= fun _ => Builtin.List.listExtendWith (.ref (N + 5)) (.ref (N + 4)) .none) _ _ _
  refine wpAny_bind (wpAny_updateSeq hS rfl ?_)
  have hS2 := Heap.get?_update_self (Obj.mapSeq (fun _ => (#[] : Array Value))) hS rfl
  have up : ∀ (h : Heap) (f : Obj → Obj), (∀ b o, s.heap.get? b = some o → h.get? b = some o) → ∀ b o, s.heap.get? b = some o → (h.update (N + 5) f).get? b = some o := fun h f q b o e =>
    (Heap.get?_update_other _ _ (Ne.symm (Nat.ne_of_lt (hs ▸ Heap.lt_size e)))).trans (q b o e)
  have k1 : ∀ b o, s.heap.get? b = some o → (s.heap.push { cls := .type "list", data := .seq #[] }).get? b = some o := fun b o e => Heap.get?_push_of_some _ e
  have k2 := up _ (Obj.mapSeq (fun _ => (#[] : Array Value))) k1
  refine wpAny_bind (wpAny_letGo ?_)
  unfold Builtin.List.listExtendWith
  refine wpAny_bind (wpAny_typeOf (T := "zip") ⟨_, k2 _ _ hz, rfl⟩ ?_)
  have h1 : Builtin.List.listSameRef (.ref (N + 5)) (.ref (N + 4)) = false := by simp [Builtin.List.listSameRef]
  have h2 : (Value.type "zip" == Value.type "list") = false := by decide
  have h3 : (Value.type "zip" == Value.type "tuple") = false := by decide
  simp only [h1, h2, h3, Bool.or_false, Bool.false_eq_true, if_false]
  refine wpAny_bind (wpAny_pyIter_zip (s := { s with heap := _ }) (k2 _ _ hz) ?_)
  refine wpAny_bind (wpAny_holding ?_)
  unfold Builtin.List.listLengthHint
  refine wpAny_bind (wpAny_specialOf (T := "zip") (s := { s with heap := _ }) ⟨_, k2 _ _ hz, rfl⟩ zip_no_len ?_)
  show wpAny _ A.in1.in1 (specialOf (Value.ref (N + 4)) (Str.ofString "__length_hint__") >>= _) _ _ _
  refine wpAny_bind (wpAny_specialOf (T := "zip") (s := { s with heap := _ }) ⟨_, k2 _ _ hz, rfl⟩ zip_no_hint ?_)
  refine wpAny_pure ?_
  have fin : ∀ (h : Heap) (c tk : Nat), (∀ b o, s.heap.get? b = some o → h.get? b = some o) → h.get? (N + 5) = some { cls := .type "list", data := .seq #[] c } →
      codeAny (model prog w) A.in1 (.builtin "list.extend.loop" ⟨[.ref (N + 5), .ref (N + 4), .none], []⟩) (wants (fun r s₂ => r = .none ∧ Q (.ref (N + 5)) s₂) E) { s with heap := h, toks := tk } := fun h c tk k4 hS4 => by
    have st' : ZSt h N l1 l2 0 := ⟨k4 _ _ st.1, st.2.1.at fun o e => k4 _ o e, st.2.2.1.at fun o e => k4 _ o e, .inl ⟨pa, pb, k4 _ _ hz, k4 _ _ hTO⟩⟩
    exact zil_loop (prog := prog) (w := w) (A := A.in1) (s := s) (n := n) hh e1 e2 hnx hny hend hn .none hN p1 p2 (fun h' tk acc c as a1 a2 a3 a4 a5 => ⟨rfl, hQ h' tk acc c as a1 a2 a3 a4 a5⟩) n 0 h tk c #[] [] rfl (Nat.zero_le _) st'
      (fun b o e => k4 b o (hk b o e)) hS4 rfl rfl ⟨List.Pairwise.nil, (fun _ ha => nomatch ha), (fun j a hj => by simp at hj)⟩
  refine wpAny_ite_split (fun _ => ?_) (fun _ => wpAny_pure ⟨plainId_quiet PySem.F.plain_extend_loop _, fin _ _ _ k2 hS2⟩)
  refine wpAny_bind (wpAny_rule ?_)
  refine wpAny_bind ?_
  show wpAny _ _ (updateSeq (N + 5) (·.push .none) >>= fun _ => updateSeq (N + 5) (·.pop)) _ _ _
  refine wpAny_bind (wpAny_updateSeq hS2 rfl ?_)
  have hS3 := Heap.get?_update_self (Obj.mapSeq (·.push Value.none)) hS2 rfl
  refine wpAny_updateSeq (hz := by seq_fits) hS3 rfl ?_
  have hS4 := Heap.get?_update_self (Obj.mapSeq (·.pop)) hS3 rfl
  exact wpAny_pure ⟨plainId_quiet PySem.F.plain_extend_loop _, fin _ _ _ (up _ (Obj.mapSeq (·.pop)) (up _ (Obj.mapSeq (·.push Value.none)) k2)) hS4⟩
end

/-! ### the rule -/
def layT (H : Hp) : List Addr → List (V × V) → Hp
  | a :: as, p :: ps => layT (upd H a (.tup [p.1, p.2])) as ps
  | _, _ => H
theorem layT_ne : ∀ (as : List Addr) (ps : List (V × V)) (H : Hp) (b : Addr), b ∉ as → layT H as ps b = H b
  | [], _, _, _, _ => by unfold layT; rfl
  | _ :: _, [], _, _, _ => by unfold layT; rfl
  | a :: as, p :: ps, H, b, h => by
    show layT _ as ps b = _
    have ne : b ≠ a := fun z => by subst z; exact h (List.mem_cons_self ..)
    rw [layT_ne as ps _ b (fun z => h (List.mem_cons_of_mem _ z)), upd_ne ne]
theorem Un.more {fs ex : List Addr} {H H' : Hp} {h h' : Heap} (k : ∀ b u, h.get? b = some u → h'.get? b = some u) (e : ∀ b u, h.get? b = some u → H' b = H b) (e2 : ∀ b u, H b = some u → H' b = some u) : Un fs ex H H' h h' where
  keep := fun b u q _ _ _ => k b u q
  slot := fun b u q _ _ _ => ⟨u.slots, k b u q⟩
  free := fun b u q n _ => by rw [e b u q]; exact n
  there := fun b u q _ => ⟨u, k b u q⟩
  tups := fun b xs q => e2 b _ q
  frzs := fun b u xs q => e2 b _ q
  tbls := fun b ps q => ⟨#[], by rw [e2 b _ q]; simp⟩
theorem hok_lay {P : Program} {w : World} {h : Heap} : ∀ (as : List Addr) (ps : List (V × V)) (H : Hp), HOk P w H h → as.Nodup → (∀ a ∈ as, H a = none) →
    (∀ (j : Nat) (a : Addr) (p : V × V), as[j]? = some a → ps[j]? = some p → ∃ x y, RelV p.1 x ∧ RelV p.2 y ∧ h.get? a = some { cls := .type "tuple", data := .seq #[x, y] }) → HOk P w (layT H as ps) h
  | [], _, _, k, _, _, _ => by unfold layT; exact k
  | _ :: _, [], _, k, _, _, _ => by unfold layT; exact k
  | a :: as, p :: ps, H, k, nd, hn, hp => by
    show HOk P w (layT (upd H a (.tup [p.1, p.2])) as ps) h
    have nd' := List.nodup_cons.mp nd
    obtain ⟨x, y, rx, ry, e⟩ := hp 0 a p rfl rfl
    refine hok_lay as ps _ (k.laidN (fun _ _ q => q) (hn a (List.mem_cons_self ..)) ⟨by show 2 ≤ sizeLine; decide, [x, y], .cons rx (.cons ry .nil), ⟨_, e, rfl, _, rfl⟩⟩) nd'.2 (fun b hb => ?_) fun j b q h1 h2 => hp (j + 1) b q h1 h2
    have ne : b ≠ a := fun z => by subst z; exact nd'.1 hb
    rw [upd_ne ne]
    exact hn b (List.mem_cons_of_mem _ hb)
theorem vals_get {vs : List V} {us : List Value} (r : Vals vs us) {i : Nat} {v : V} (e : vs[i]? = some v) : ∃ u, us[i]? = some u ∧ RelV v u := r.get e
theorem vals_refs : ∀ as : List Addr, Vals (as.map V.ref) (as.map Value.ref)
  | [] => .nil
  | a :: as => .cons rfl (vals_refs as)
def tLZ (K : PySem.W.Frag) (ta : TA) : TE := fun σ H Q => ta σ H fun vs H1 => ∃ (a b : Addr) (xs ys : List V), vs = [.ref a, .ref b] ∧ SqL K H1 a xs ∧ SqL K H1 b ys ∧
  ∀ (S : Addr) (as : List Addr), as.length = (xs.zip ys).length → H1 S = none → S ∉ as → as.Nodup → (∀ a ∈ as, H1 a = none) → Q (.ref S) (upd (layT H1 as (xs.zip ys)) S (.lst (as.map V.ref)))
theorem pe_lz {X : Cx} {a b : Expr} {ta : TA} {p p2 q pos : Pos} (hg : Gl X "list") (hm : X.mg "list" = none) (hg2 : Gl X "zip") (hm2 : X.mg "zip" = none) (ha : PA X [a, b] ta) (hc : X.calm = true := by rfl)
    (hs : starEach [a, b] X.env = (false, eval a X.env) :: starEach [b] X.env := by rfl) (hpl : (backTo q (starEach [b] X.env)).any (·.1) = false := by rfl) :
    PE X (.Call (.Name "list" p) [.Call (.Name "zip" p2) [a, b] [] q] [] pos) (tLZ X.K ta) := by
  refine ⟨fun pins s σ H Q I h => ?_⟩
  refine Call_ (ld_blt I hg hm boot_list ?_)
  refine PyProof.Rows.callWith_type1 (PyProof.Rows.args_cons ?_ rfl) rfl rfl
  refine Call_ (ld_blt I hg2 hm2 boot_zip ?_)
  refine PyProof.Rows.callWith_type1 (thn (ha.run q pins s σ H _ I h) fun us s1 ⟨vs, H1, I1, r1, q1⟩ => ?_) hs hpl
  obtain ⟨l1, l2, xs, ys, ex, hq1, hq2, q1⟩ := q1
  subst ex
  cases r1 with
  | cons r rr =>
    cases rr with
    | cons r' rr =>
      cases rr
      cases r
      cases r'
      obtain ⟨its, rv, p1, z1⟩ := I1.list hq1
      obtain ⟨its2, rv2, p2, z2⟩ := I1.list hq2
      have le1 := rv.length
      have le2 := rv2.length
      have lt1 : l1 < s1.heap.objs.size := p1.lt
      have lt2 : l2 < s1.heap.objs.size := p2.lt
      refine call_zip_2 p1.isList p2.isList fun h' hz hTI hTO h1 h2 hsz hk => ?_
      refine PyProof.Rows.args_nil ?_
      have hmin : (xs.zip ys).length = min xs.length ys.length := List.length_zip
      refine zil_call (s := { s1 with heap := h' }) (n := (xs.zip ys).length) (I1.ok.hd hc) lt1 lt2 (by simp only [List.size_toArray]; omega) (by simp only [List.size_toArray]; omega) (by simp only [List.size_toArray]; omega) (by omega) rfl p1.isList p2.isList hsz hk ⟨hTI, h1, h2, .inl ⟨_, _, hz, hTO⟩⟩ fun h'' tk acc c as k hS hl hG hacc => ?_
      have hnd : as.Nodup := hG.rise.imp fun h => Nat.ne_of_lt h
      have fr : ∀ a ∈ as, H1 a = none := fun a ha => I1.hok.fresh (Nat.le_of_lt (Nat.lt_of_le_of_lt (Nat.le_add_right _ 5) (hG.above a ha)))
      have frS : H1 (s1.heap.objs.size + 5) = none := I1.hok.fresh (Nat.le_add_right _ _)
      have nS : s1.heap.objs.size + 5 ∉ as := fun z => Nat.lt_irrefl _ (hG.above _ z)
      have old : ∀ b u, s1.heap.get? b = some u → b ∉ as ∧ b ≠ s1.heap.objs.size + 5 := fun b u e => ⟨fun z => Nat.lt_asymm (Heap.lt_size e) (Nat.lt_of_le_of_lt (Nat.le_add_right _ 5) (hG.above b z)), Nat.ne_of_lt (Nat.lt_of_lt_of_le (Heap.lt_size e) (Nat.le_add_right _ 5))⟩
      have hokL : HOk X.prog X.w (layT H1 as (xs.zip ys)) h'' := hok_lay as (xs.zip ys) H1 (I1.hok.kept k) hnd fr fun j a p ea ep => by
        obtain ⟨x, y, g1, g2, g3⟩ := hG.pairs j a ea
        have ep' := List.getElem?_zip_eq_some.mp (show (xs.zip ys)[j]? = some (p.1, p.2) from ep)
        obtain ⟨u, e1, e2⟩ := rv.get ep'.1
        obtain ⟨u2, e3, e4⟩ := rv2.get ep'.2
        have : x = u := by
          have g1' : its[j]? = some x := by simpa using g1
          rw [e1] at g1'; cases g1'; rfl
        subst this
        have : y = u2 := by
          have g2' : its2[j]? = some y := by simpa using g2
          rw [e3] at g2'; cases g2'; rfl
        subst this
        exact ⟨x, y, e2, e4, g3⟩
      have hokS : HOk X.prog X.w (upd (layT H1 as (xs.zip ys)) (s1.heap.objs.size + 5) (.lst (as.map V.ref))) h'' := hokL.laidN (fun _ _ q => q) (by rw [layT_ne _ _ _ _ nS]; exact frS) ⟨by rw [List.length_map, hl]; omega, acc.toList, c, by rw [hacc]; exact vals_refs as, by rw [hS]⟩
      have I2 : Inv X pins σ (upd (layT H1 as (xs.zip ys)) (s1.heap.objs.size + 5) (.lst (as.map V.ref))) { s1 with heap := h'', toks := tk } :=
        I1.un (Un.more k (fun b u e => by rw [upd_ne (old b u e).2, layT_ne _ _ _ _ (old b u e).1]) fun b u e => by
          rw [upd_ne (fun z => by subst z; rw [frS] at e; cases e), layT_ne _ _ _ _ (fun z => by rw [fr b z] at e; cases e)]; exact e) hokS
      exact ⟨.ref (s1.heap.objs.size + 5), _, I2, rfl, q1 _ as hl frS nS hnd fr⟩
/-! ### by values -/
section
variable {X : Cx} {C : Cn} {a b : Expr} {mas : En → Sto → Res (List Vl)} {p p2 q pos : Pos}
theorem laid_pairs {K : Kw} : ∀ (as : List Addr) (xs ys : List V) (ds es : List PyData) (μ : List Addr) (F H : Hp) (st : Sto), SR K μ F H st → DqAll K F xs ds → DqAll K F ys es → as.length = (xs.zip ys).length → as.Nodup → (∀ a ∈ as, H a = none) →
    ∃ F2, Ext μ F H μ F2 (layT H as (xs.zip ys)) ∧ SR K μ F2 (layT H as (xs.zip ys)) st ∧ DqAll K F2 (as.map V.ref) (zipF ds es)
  | [], xs, ys, ds, es, μ, F, H, st, r, h1, h2, hl, _, _ => by
    refine ⟨F, ?_, ?_, ?_⟩
    · unfold layT; exact Ext.refl
    · unfold layT; exact r
    · cases h1 with
      | nil => exact .nil
      | cons a1 a2 => cases h2 with
        | nil => exact .nil
        | cons b1 b2 => simp at hl
  | a :: as, xs, ys, ds, es, μ, F, H, st, r, h1, h2, hl, nd, hn => by
    cases h1 with
    | nil => simp at hl
    | @cons x xs' d ds' a1 a2 =>
      cases h2 with
      | nil => simp at hl
      | @cons y ys' e es' b1 b2 =>
        have nd' := List.nodup_cons.mp nd
        obtain ⟨F1, x1, r1, k1⟩ := r.tupled (hn a (List.mem_cons_self ..)) a1 b1
        obtain ⟨F2, x2, r2, k2⟩ := laid_pairs as xs' ys' ds' es' μ F1 _ st r1 (a2.same x1.same) (b2.same x1.same) (by simpa using hl) nd'.2 fun c hc => by
          have ne : c ≠ a := fun z => by subst z; exact nd'.1 hc
          rw [upd_ne ne]
          exact hn c (List.mem_cons_of_mem _ hc)
        exact ⟨F2, x1.trans x2, r2, .cons (k1.same x2.same) k2⟩
def mLZ (mas : En → Sto → Res (List Vl)) : Ev := fun ρ st => (mas ρ st).bind fun vs s => match vs with
  | [.d (.list xs), .d (.list ys)] => .ok (.n (.l (zipF xs ys))) s
  | _ => .no
theorem s_lz (hg : Gl X "list") (hm : X.mg "list" = none) (hg2 : Gl X "zip") (hm2 : X.mg "zip" = none) (ha : PA X [a, b] (tAs C mas)) (hc : X.calm = true := by rfl)
    (hs : starEach [a, b] X.env = (false, eval a X.env) :: starEach [b] X.env := by rfl) (hpl : (backTo q (starEach [b] X.env)).any (·.1) = false := by rfl) :
    PE X (.Call (.Name "list" p) [.Call (.Name "zip" p2) [a, b] [] q] [] pos) (tM C (mLZ mas)) :=
  (pe_lz hg hm hg2 hm2 ha hc hs hpl).imp fun σ H Q ⟨ρ, st, μ, F, h1, h2, h3⟩ => ⟨ρ, st, μ, F, h1, h2, Post.bindA gE_lat h3 fun x s v μ1 F1 H1 x1 r1 k1 h4 => by
    split at h4
    · rename_i xs ys
      obtain ⟨v1, v2, rfl, g1, g2⟩ := k1.two
      cases (show Dq C.K F1 v1 (.list xs) from g1) with
      | lst a1 a2 =>
        cases (show Dq C.K F1 v2 (.list ys) from g2) with
        | lst b1 b2 =>
          refine ⟨_, _, _, _, rfl, SqL.of (r1.sub _ _ a1), SqL.of (r1.sub _ _ b1), fun S as hl hS nS nd fr => ?_⟩
          obtain ⟨F2, x2, r2, k2⟩ := laid_pairs as _ _ _ _ μ1 F1 H1 s r1 a2 b2 hl nd fr
          have h5 : gE (C.at σ) Q (.n (.l (zipF xs ys))) s μ1 F1 H1 := h4
          exact fin_n (C := C.at σ) (c := .l (zipF xs ys)) r2 (gE_lat.it x2 h5) ((layT_ne as _ H1 S nS).trans hS) ⟨_, rfl, k2⟩
    · exact False.elim h4⟩
@[simp] theorem W_mLZ {ρ : En} {st : Sto} {E : Er → Sto → Prop} {P : Rv → Sto → Prop} : WVe E (mLZ mas ρ st) P = WVe E (mas ρ st) fun vs s => match vs with
  | [.d (.list xs), .d (.list ys)] => P (.n (.l (zipF xs ys))) s
  | _ => False := by
  unfold mLZ
  rw [WV_bind]
  congr 1
  funext vs s
  split <;> rfl
end
end Cp
/-! Crl: repr([x, d]) where a dict (or a list) of the store stands in the display, and stays. -/
namespace Cp
open PySem L2
def viewsD (s : Sto) : List Vl → Option (List PyData)
  | [] => some []
  | y :: ys => match view s y, viewsD s ys with
    | some d, some ds => some (d :: ds)
    | _, _ => none
section
variable {X : Cx} {C : Cn} {es : List Expr} {mas : En → Sto → Res (List Vl)} {p q pos : Pos} {k : Nat}
theorem viewsD_ok {K : Kw} {μ : List Addr} {F H : Hp} {st : Sto} (s : SR K μ F H st) : ∀ {ys : List Vl} {vs : List V} {ds : List PyData}, VokAll K F μ ys vs → viewsD st ys = some ds → DqAll K H vs ds
  | [], _, _, k, e => by cases k; cases e; exact .nil
  | y :: ys, _, _, k, e => by
    cases k with
    | cons h r =>
      unfold viewsD at e
      cases q1 : view st y with
      | none => rw [q1] at e; cases e
      | some d =>
        cases q2 : viewsD st ys with
        | none => rw [q1, q2] at e; cases e
        | some ds =>
          rw [q1, q2] at e
          cases e
          exact .cons ((view_ok s h q1).dq s.sub) (viewsD_ok s r q2)
def mRL (mas : En → Sto → Res (List Vl)) : Ev := fun ρ st => (mas ρ st).bind fun vs s => match viewsD s vs with
  | some ds => if ds.length ≤ sizeLine ∧ shw (.list ds) = true then .ok (.d (.str (PyData.list ds).shown)) s else .no
  | none => .no
theorem s_reprL (B : Bd k X C) (hS : SysK X.K) (hg : Gl X "repr") (hm : X.mg "repr" = none) (ha : PA X es (tAs C mas)) (he : starEach [.List es q] X.env = (false, eval (.List es q) X.env) :: starEach [] X.env := by rfl) (hpl : NA X [] pos := by rfl) :
    PE X (.Call (.Name "repr" p) [.List es q] [] pos) (tM C (mRL mas)) :=
  (pe_callB (cr_repr hS B.rm.hu B.rm.gd) hg hm (by decide +kernel) (pa_cons (pe_lst ha) pa_nil he) (by decide) (by decide) he hpl).imp fun σ H Q ⟨ρ, st, μ, F, h1, h2, h3⟩ => ⟨ρ, st, μ, F, h1, h2, Post.bindA gE_lat h3 fun x s v μ1 F1 H1 x1 r1 k1 h4 => by
    cases q : viewsD s x with
    | none => simp only [q] at h4; exact False.elim h4
    | some ds =>
      simp only [q] at h4
      have r := viewsD_ok r1 k1 q
      by_cases c : ds.length ≤ sizeLine ∧ shw (.list ds) = true
      case neg => rw [if_neg c] at h4; exact False.elim h4
      rw [if_pos c] at h4
      refine ⟨by rw [r.length]; exact c.1, fun a hp => ?_⟩
      obtain ⟨s1, x2⟩ := r1.newly (o := .lst v) hp
      have sm : Same H1 (upd H1 a (.lst v)) := fun b u e => by
        rw [upd_ne (fun z => by subst z; rw [hp] at e; cases e)]; exact e
      have h5 : gE (C.at σ) Q (.d (.str (PyData.list ds).shown)) s μ1 F1 H1 := h4
      exact ⟨_, .ref a, .list ds, rfl, .lst upd_same (r.same sm), c.2, fin_d (C := C.at σ) s1 (gE_lat.it x2 h5) (.str _)⟩⟩
@[simp] theorem W_mRL {ρ : En} {st : Sto} {E : Er → Sto → Prop} {P : Rv → Sto → Prop} : WVe E (mRL mas ρ st) P = WVe E (mas ρ st) fun vs s => WO (viewsD s vs) fun ds => ds.length ≤ sizeLine ∧ shw (.list ds) = true ∧ P (.d (.str (PyData.list ds).shown)) s := by
  unfold mRL
  rw [WV_bind]
  congr 1
  funext vs s
  cases q : viewsD s vs with
  | none => rfl
  | some ds =>
    by_cases c : ds.length ≤ sizeLine ∧ shw (.list ds) = true
    · show WVe E (if _ then _ else _) P = _
      rw [if_pos c]
      simp [c.1, c.2]
    · show WVe E (if _ then _ else _) P = _
      rw [if_neg c]
      simp only [WO_some]
      exact propext ⟨fun h => False.elim h, fun h => c ⟨h.1, h.2.1⟩⟩
end
end Cp
namespace K11
open PySem PySem.Spec PyProof.Rows L2 Cp
def top (i : Nat) : Stmt := PySem.Challenge.pw_callpolicy_k11_policies_relabelled.main.body.getD i (.Pass ⟨0, 0, 0, 0⟩)
abbrev st_is_label : Stmt := top 23
abbrev st_is_number : Stmt := top 24
abbrev st_is_span : Stmt := top 25
abbrev st_is_call : Stmt := top 26
abbrev st_has_number : Stmt := top 27
abbrev st_has_form : Stmt := top 28
abbrev st_inner : Stmt := top 29
abbrev st_is_policy : Stmt := top 30
abbrev st_with_inner : Stmt := top 31
abbrev st_check_policy : Stmt := top 32
abbrev st_with_labels : Stmt := top 34
abbrev st_relabelled : Stmt := top 35
abbrev st__law_urn : Stmt := top 37
abbrev st__law_next : Stmt := top 38
abbrev st__law_of : Stmt := top 39
abbrev st__law_span : Stmt := top 40
abbrev st__law_call : Stmt := top 41
abbrev st__law_label : Stmt := top 42
abbrev st__law_policy : Stmt := top 43
abbrev st__law_grown : Stmt := top 44
abbrev st__law_inner : Stmt := top 45
abbrev st__law_calls : Stmt := top 46
abbrev st__law_caught : Stmt := top 47
abbrev st__law_called : Stmt := top 48
abbrev st__law_fresh : Stmt := top 49
abbrev st__law_many_calls : Stmt := top 50
abbrev st_law : Stmt := top 51
section
variable {P : Program} {w : World} {K : PySem.W.Frag} {mg : Str → Option Value} {base : Heap}
noncomputable def sb_is_label : Sv := (sRet (eAnd (mIsi "str" (mN 0)) (eAnd (bV (mChn (gI fun i j => decide (i ≤ j)) (gI fun i j => decide (i ≤ j)) (mK (.int 1)) (mCal (gLen) (aCons (mV (mN 0)) aNil)) (mK (.int 8)))) (mCal (g1 fAll) (aCons (mV (mLc (iOf (mN 0)) (gNm 1) ttY (bV (mCmp (gInS false) (mN 1) (mK (.str "abcdefghijklmnopqrstuvwxyz0123456789")))) [1])) aNil)))))
noncomputable def sem_is_label : Fs := bodyF 2 1 sb_is_label
theorem kn_is_label (D : Df K mg "is_label" st_is_label) (m_all : mg "all" = none) (m_isinstance : mg "isinstance" = none) (m_len : mg "len" = none) (m_str : mg "str" = none) (c_LONGEST_LABEL : ∃ t, mg "LONGEST_LABEL" = some (.int 8 t)) (c_SIGNS : ∃ t, mg "SIGNS" = some (.str "abcdefghijklmnopqrstuvwxyz0123456789" t)) : Kn P w K mg base "is_label" 1 sem_is_label :=
  kn_def (k := 0) (N := ["value", "sign"]) (ps := ["value"]) (sb := sb_is_label) D ⟨rfl, rfl, rfl, by decide +kernel, rfl, by decide +kernel, by decide +kernel⟩ (fun _ _ _ _ _ _ us hl => match us, hl with | [_], _ => rfl) (fun cdv f A outer s H E B =>
    (x_one (x_ret (s_and (s_isi (by rfl) m_isinstance (s_name (pv 0)) (by rfl) m_str (by decide +kernel)) (s_and (s_chn op_le op_le gI_ok gI_ok s_int (k_len B (by rfl) m_len (a_cons (s_name (pv 0)) a_nil)) (s_gi (by rfl) c_LONGEST_LABEL)) (s_one (k_all B (by rfl) m_all (a_cons (s_lc (own := [("sign", 1)]) B.cm B.nd (i_seq (s_name (pv 0))) (show BlkOk ["value", "sign"] (defScope st_is_label) _ _ from ⟨rfl, by decide +kernel, by decide +kernel, by decide +kernel, by decide +kernel⟩) (fun s1 H1 A1 cl1 fp1 => (t_name (pg_name (i := 1) (B.blk s1 H1 _ _ fp1).nd rfl (by first | exact .inl rfl | exact .inr rfl)))) (fun s1 H1 A1 cl1 fp1 => pts_yes) (fun s1 H1 A1 cl1 fp1 => (v_sIn (s_name (pv 1)) (s_gs (by rfl) c_SIGNS) rfl)) (by decide)) a_nil))))))))
noncomputable def sb_is_number : Sv := (sRet (eAnd (mIsi "int" (mN 0)) (eAnd (eNot (mIsi "bool" (mN 0))) (bV (mChn (gI fun i j => decide (i ≤ j)) (gI fun i j => decide (i ≤ j)) (mK (.int 0)) (mN 0) (mK (.int 1000000000)))))))
noncomputable def sem_is_number : Fs := bodyF 1 1 sb_is_number
theorem kn_is_number (D : Df K mg "is_number" st_is_number) (m_bool : mg "bool" = none) (m_int : mg "int" = none) (m_isinstance : mg "isinstance" = none) (c_GREATEST_NUMBER : ∃ t, mg "GREATEST_NUMBER" = some (.int 1000000000 t)) : Kn P w K mg base "is_number" 1 sem_is_number :=
  kn_def (k := 0) (N := ["value"]) (ps := ["value"]) (sb := sb_is_number) D ⟨rfl, rfl, rfl, by decide +kernel, rfl, by decide +kernel, by decide +kernel⟩ (fun _ _ _ _ _ _ us hl => match us, hl with | [_], _ => rfl) (fun cdv f A outer s H E B =>
    (x_one (x_ret (s_and (s_isi (by rfl) m_isinstance (s_name (pv 0)) (by rfl) m_int (by decide +kernel)) (s_and (s_not (s_isi (by rfl) m_isinstance (s_name (pv 0)) (by rfl) m_bool (by decide +kernel))) (s_one (s_chn op_le op_le gI_ok gI_ok s_int (s_name (pv 0)) (s_gi (by rfl) c_GREATEST_NUMBER))))))))
noncomputable def sb_inner : Sv := (sSeq (sIf (mCmp (gIn false) (mBin fIx (mN 0) (mK (.int 0))) (mTup (aCons (mV (mK (.str "call"))) (aCons (mV (mK (.str "wait"))) aNil)))) (sRet (mTup aNil)) sNil) (sRet (eIf (mCmp (gIn false) (mBin fIx (mN 0) (mK (.int 0))) (mTup (aCons (mV (mK (.str "then"))) (aCons (mV (mK (.str "both"))) aNil)))) (mSl (mN 0) (oSome (mK (.int 1))) oNone) (mSl (mN 0) (oSome (mK (.int 2))) oNone))))
noncomputable def sem_inner : Fs := bodyF 1 1 sb_inner
theorem kn_inner (D : Df K mg "inner" st_inner) (c_BOTH : ∃ t, mg "BOTH" = some (.str "both" t)) (c_CALL : ∃ t, mg "CALL" = some (.str "call" t)) (c_THEN : ∃ t, mg "THEN" = some (.str "then" t)) (c_WAIT : ∃ t, mg "WAIT" = some (.str "wait" t)) : Kn P w K mg base "inner" 1 sem_inner :=
  kn_def (k := 0) (N := ["policy"]) (ps := ["policy"]) (sb := sb_inner) D ⟨rfl, rfl, rfl, by decide +kernel, rfl, by decide +kernel, by decide +kernel⟩ (fun _ _ _ _ _ _ us hl => match us, hl with | [_], _ => rfl) (fun cdv f A outer s H E B =>
    (x_cons (x_if (t_in (s_ix (s_name (pv 0)) s_int (fun _ _ => rfl)) (s_tup (a_cons (s_gs (by rfl) c_CALL) (a_cons (s_gs (by rfl) c_WAIT) a_nil))) rfl) (x_one (x_ret (s_tup a_nil))) x_nil) (x_one (x_ret (s_ifE (t_in (s_ix (s_name (pv 0)) s_int (fun _ _ => rfl)) (s_tup (a_cons (s_gs (by rfl) c_THEN) (a_cons (s_gs (by rfl) c_BOTH) a_nil))) rfl) (s_sl (s_name (pv 0)) (o_some s_int) o_none) (s_sl (s_name (pv 0)) (o_some s_int) o_none))))))
noncomputable def sb_with_inner : Sv := (sRet (mBin fAdd (mSl (mN 0) oNone (oSome (mBin (fI (fun _ _ => true) fun i j => i - j) (mCal (gLen) (aCons (mV (mN 0)) aNil)) (mCal (gLen) (aCons (mV (mN 1)) aNil))))) (mCal (g1 fTuple) (aCons (mV (mN 1)) aNil))))
noncomputable def sem_with_inner : Fs := bodyF 2 2 sb_with_inner
theorem kn_with_inner (D : Df K mg "with_inner" st_with_inner) (m_len : mg "len" = none) (m_tuple : mg "tuple" = none) : Kn P w K mg base "with_inner" 1 sem_with_inner :=
  kn_def (k := 0) (N := ["policy", "parts"]) (ps := ["policy", "parts"]) (sb := sb_with_inner) D ⟨rfl, rfl, rfl, by decide +kernel, rfl, by decide +kernel, by decide +kernel⟩ (fun _ _ _ _ _ _ us hl => match us, hl with | [_, _], _ => rfl) (fun cdv f A outer s H E B =>
    (x_one (x_ret (s_add (s_sl (s_name (pv 0)) o_none (o_some (s_sub (k_len B (by rfl) m_len (a_cons (s_name (pv 0)) a_nil)) (k_len B (by rfl) m_len (a_cons (s_name (pv 1)) a_nil))))) (k_tuple (by rfl) m_tuple (a_cons (s_name (pv 1)) a_nil))))))
noncomputable def sb__law_urn : Sv := (sSeq (sAsg (gNm 2) (mV (mBin fAdd (mBin fMulA (mK (.int 13)) (mN 1)) (mK (.int 5))))) (sSeq (sIf (mCmp (gI fun i j => decide (i < j)) (mN 1) (mCal (gLen) (aCons (mV (mN 0)) aNil))) (sAsg (gNm 2) (mV (mSix (mN 0) (mN 1)))) sNil) (sSeq (sAsg (gNm 3) (mV (mBin fMulA (mBin (fI pPos fun i j => i % j) (mCal (g1 fAbs) (aCons (mV (mN 2)) aNil)) (mBin (fI pPow fun i j => i ^ j.toNat) (mBin (fI pPow fun i j => i ^ j.toNat) (mK (.int 10)) (mK (.int 60))) (mK (.int 5)))) (mCal (g1 fInt) (aCons (mV (bV (mCmp (gI fun i j => decide (j ≤ i)) (mCal (g1 fAbs) (aCons (mV (mN 2)) aNil)) (mBin (fI pPow fun i j => i ^ j.toNat) (mK (.int 10)) (mK (.int 18)))))) aNil))))) (sRet (mLst (aCons (mV (mN 3)) (aCons (mV (mBin (fI pPos fun i j => i % j) (mBin fAdd (mBin fAdd (mBin fMulA (mBin (fI pPos fun i j => i % j) (mN 2) (mK (.int 2305843009213693951))) (mK (.int 69859))) (mBin fMulA (mBin fMulA (mK (.int 5003)) (mN 1)) (mN 1))) (mK (.int 83))) (mK (.int 2305843009213693907)))) (aCons (mV (mK (.int 0))) aNil))))))))
noncomputable def sem__law_urn : Fs := bodyF 4 2 sb__law_urn
theorem kn__law_urn (D : Df K mg "_law_urn" st__law_urn) (m_abs : mg "abs" = none) (m_int : mg "int" = none) (m_len : mg "len" = none) : Kn P w K mg base "_law_urn" 1 sem__law_urn :=
  kn_def (k := 0) (N := ["_law_script", "_law_k", "_law_cell", "_law_own"]) (ps := ["_law_script", "_law_k"]) (sb := sb__law_urn) D ⟨rfl, rfl, rfl, by decide +kernel, rfl, by decide +kernel, by decide +kernel⟩ (fun _ _ _ _ _ _ us hl => match us, hl with | [_, _], _ => rfl) (fun cdv f A outer s H E B =>
    (x_cons (x_asg (pv_frz (s_add (s_mulA s_int (s_name (pv 1))) s_int)) (t_name (pg_name (i := 2) B.nd rfl (by first | exact .inl rfl | exact .inr rfl)))) (x_cons (x_if (t_lt (s_name (pv 1)) (k_len B (by rfl) m_len (a_cons (s_name (pv 0)) a_nil))) (x_one (x_asg (pv_frz (s_six B.hK (s_name (pv 0)) (s_name (pv 1)) (fun _ _ => rfl))) (t_name (pg_name (i := 2) B.nd rfl (by first | exact .inl rfl | exact .inr rfl))))) x_nil) (x_cons (x_asg (pv_frz (s_mulA (s_mod (k_abs (by rfl) m_abs (a_cons (s_name (pv 2)) a_nil)) (s_pow (s_pow s_int s_int) s_int)) (k_int (by rfl) m_int (a_cons (v_ge (k_abs (by rfl) m_abs (a_cons (s_name (pv 2)) a_nil)) (s_pow s_int s_int)) a_nil)))) (t_name (pg_name (i := 3) B.nd rfl (by first | exact .inl rfl | exact .inr rfl)))) (x_one (x_ret (s_lst (a_cons (s_name (pv 3)) (a_cons (s_mod (s_add (s_add (s_mulA (s_mod (s_name (pv 2)) s_int) s_int) (s_mulA (s_mulA s_int (s_name (pv 1))) (s_name (pv 1)))) s_int) s_int) (a_cons s_int a_nil))))))))))
noncomputable def sb__law_next : Sv := (sSeq (sIf (mCmp (gI fun i j => decide (j < i)) (mBin fIx (mN 0) (mK (.int 0))) (mK (.int 0))) (sSeq (sAsg (gNm 2) (mV (mBin (fI pPos fun i j => i % j) (mBin fIx (mN 0) (mK (.int 0))) (mN 1)))) (sSeq (sAsg (gPl (mN 0) (mK (.int 0))) (mV (mBin (fI pDiv fun i j => i / j) (mBin fIx (mN 0) (mK (.int 0))) (mN 1)))) (sRet (mN 2)))) sNil) (sSeq (sAsg (gPl (mN 0) (mK (.int 2))) (mV (mBin fAdd (mBin fIx (mN 0) (mK (.int 2))) (mK (.int 1))))) (sSeq (sAsg (gNm 3) (mV (mBin (fI pPos fun i j => i % j) (mBin fMulA (mBin fAdd (mBin fAdd (mBin fIx (mN 0) (mK (.int 1))) (mBin fMulA (mBin fMulA (mK (.int 30011)) (mBin fIx (mN 0) (mK (.int 2)))) (mBin fIx (mN 0) (mK (.int 2))))) (mK (.int 19))) (mK (.int 69877))) (mK (.int 2305843009213693921))))) (sSeq (sAsg (gNm 3) (mV (mBin (fI pPos fun i j => i % j) (mBin fMulA (mN 3) (mBin fAdd (mBin fAdd (mBin (fI pPos fun i j => i % j) (mN 3) (mK (.int 1000039))) (mBin fMulA (mK (.int 60013)) (mBin fIx (mN 0) (mK (.int 2))))) (mK (.int 5)))) (mK (.int 2305843009213693951))))) (sRet (mBin (fI pPos fun i j => i % j) (mBin fAdd (mBin (fI pDiv fun i j => i / j) (mN 3) (mK (.int 103))) (mBin (fI pDiv fun i j => i / j) (mN 3) (mK (.int 999979)))) (mN 1)))))))
noncomputable def sem__law_next : Fs := bodyF 4 2 sb__law_next
theorem kn__law_next (D : Df K mg "_law_next" st__law_next) : Kn P w K mg base "_law_next" 1 sem__law_next :=
  kn_def (k := 0) (N := ["_law_urn_here", "_law_below", "_law_digit", "_law_blend"]) (ps := ["_law_urn_here", "_law_below"]) (sb := sb__law_next) D ⟨rfl, rfl, rfl, by decide +kernel, rfl, by decide +kernel, by decide +kernel⟩ (fun _ _ _ _ _ _ us hl => match us, hl with | [_, _], _ => rfl) (fun cdv f A outer s H E B =>
    (x_cons (x_if (t_gt (s_ix (s_name (pv 0)) s_int (fun _ _ => rfl)) s_int) (x_cons (x_asg (pv_frz (s_mod (s_ix (s_name (pv 0)) s_int (fun _ _ => rfl)) (s_name (pv 1)))) (t_name (pg_name (i := 2) B.nd rfl (by first | exact .inl rfl | exact .inr rfl)))) (x_cons (x_asg (pv_frz (s_fdiv (s_ix (s_name (pv 0)) s_int (fun _ _ => rfl)) (s_name (pv 1)))) (t_pl (s_name (pv 0)) s_int)) (x_one (x_ret (s_name (pv 2)))))) x_nil) (x_cons (x_asg (pv_frz (s_add (s_ix (s_name (pv 0)) s_int (fun _ _ => rfl)) s_int)) (t_pl (s_name (pv 0)) s_int)) (x_cons (x_asg (pv_frz (s_mod (s_mulA (s_add (s_add (s_ix (s_name (pv 0)) s_int (fun _ _ => rfl)) (s_mulA (s_mulA s_int (s_ix (s_name (pv 0)) s_int (fun _ _ => rfl))) (s_ix (s_name (pv 0)) s_int (fun _ _ => rfl)))) s_int) s_int) s_int)) (t_name (pg_name (i := 3) B.nd rfl (by first | exact .inl rfl | exact .inr rfl)))) (x_cons (x_asg (pv_frz (s_mod (s_mulA (s_name (pv 3)) (s_add (s_add (s_mod (s_name (pv 3)) s_int) (s_mulA s_int (s_ix (s_name (pv 0)) s_int (fun _ _ => rfl)))) s_int)) s_int)) (t_name (pg_name (i := 3) B.nd rfl (by first | exact .inl rfl | exact .inr rfl)))) (x_one (x_ret (s_mod (s_add (s_fdiv (s_name (pv 3)) s_int) (s_fdiv (s_name (pv 3)) s_int)) (s_name (pv 1))))))))))
noncomputable def sb__law_label : Sv := (sSeq (sAsg (gPl (mN 0) (mK (.int 1))) (mV (mBin fAdd (mBin fIx (mN 0) (mK (.int 1))) (mK (.int 1))))) (sRet (mBin fAdd (mBin fAdd (mBin fIx (mN 0) (mK (.int 2))) (mBin fIx (mK (.str "abcdefghijklmnopqrstuvwxyz0123456789xyz0")) (mBin (fI (fun _ _ => true) fun i j => i - j) (mBin fIx (mN 0) (mK (.int 1))) (mK (.int 1))))) (mBin fMulA (mK (.str "q")) (mCal (g1 fInt) (aCons (mV (bV (mCmp (gI fun i j => decide (j < i)) (mBin fIx (mN 0) (mK (.int 1))) (mK (.int 36))))) aNil))))))
noncomputable def sem__law_label : Fs := bodyF 1 1 sb__law_label
theorem kn__law_label (D : Df K mg "_law_label" st__law_label) (m_int : mg "int" = none) : Kn P w K mg base "_law_label" 1 sem__law_label :=
  kn_def (k := 0) (N := ["_law_left"]) (ps := ["_law_left"]) (sb := sb__law_label) D ⟨rfl, rfl, rfl, by decide +kernel, rfl, by decide +kernel, by decide +kernel⟩ (fun _ _ _ _ _ _ us hl => match us, hl with | [_], _ => rfl) (fun cdv f A outer s H E B =>
    (x_cons (x_asg (pv_frz (s_add (s_ix (s_name (pv 0)) s_int (fun _ _ => rfl)) s_int)) (t_pl (s_name (pv 0)) s_int)) (x_one (x_ret (s_add (s_add (s_ix (s_name (pv 0)) s_int (fun _ _ => rfl)) (s_ix s_str (s_sub (s_ix (s_name (pv 0)) s_int (fun _ _ => rfl)) s_int) (fun _ _ => rfl))) (s_mulA s_str (k_int (by rfl) m_int (a_cons (v_gt (s_ix (s_name (pv 0)) s_int (fun _ _ => rfl)) s_int) a_nil))))))))
noncomputable def sb__law_inner : Sv := (sRet (mDGet2 (mDct [((mK (.str "call")), (mTup aNil)), ((mK (.str "wait")), (mTup aNil)), ((mK (.str "retry")), (mSl (mN 0) (oSome (mK (.int 2))) oNone)), ((mK (.str "timeout")), (mSl (mN 0) (oSome (mK (.int 2))) oNone))]) (mBin fIx (mN 0) (mK (.int 0))) (mSl (mN 0) (oSome (mNeg (mK (.int 2)))) oNone)))
noncomputable def sem__law_inner : Fs := bodyF 1 1 sb__law_inner
theorem kn__law_inner (D : Df K mg "_law_inner" st__law_inner) : Kn P w K mg base "_law_inner" 1 sem__law_inner :=
  kn_def (k := 0) (N := ["_law_policy_here"]) (ps := ["_law_policy_here"]) (sb := sb__law_inner) D ⟨rfl, rfl, rfl, by decide +kernel, rfl, by decide +kernel, by decide +kernel⟩ (fun _ _ _ _ _ _ us hl => match us, hl with | [_], _ => rfl) (fun cdv f A outer s H E B =>
    (x_one (x_ret (y_dget2 B.rm.hu (s_dct (pps_cons (pv_frz s_str) (pv_frz (s_tup a_nil)) (pps_cons (pv_frz s_str) (pv_frz (s_tup a_nil)) (pps_cons (pv_frz s_str) (pv_frz (s_sl (s_name (pv 0)) (o_some s_int) o_none)) (pps_cons (pv_frz s_str) (pv_frz (s_sl (s_name (pv 0)) (o_some s_int) o_none)) pps_nil)))) rfl rfl (by simp) (by decide)) (s_ix (s_name (pv 0)) s_int (fun _ _ => rfl)) (s_sl (s_name (pv 0)) (o_some (s_neg s_int)) o_none) ⟨by rfl, by rfl, by rfl, by rfl⟩))))
noncomputable def sb__law_many_calls : Sv := (sSeq (sAsg (gNm 0) (mV (mLc (iOf (mK (.str "abcdefghijklmnopqrst"))) (gNm 1) ttY (mTup (aCons (mV (mK (.str "call"))) (aCons (mV (mBin fAdd (mK (.str "old")) (mN 1))) (aCons (mV (mTup (aCons (mV (mK (.int 0))) (aCons (mV (mK (.int 1))) aNil)))) (aCons (mV (mK .none)) (aCons (mV (mK (.bool false))) aNil)))))) [1]))) (sSeq (whGo (mCmp (gI fun i j => decide (j < i)) (mCal (gLen) (aCons (mV (mN 0)) aNil)) (mK (.int 1))) (sAsg (gNm 0) (mV (mBin fAdd (mSl (mN 0) (oSome (mK (.int 2))) oNone) (mLst (aCons (mV (mTup (aCons (mV (mK (.str "both"))) (aCons (mV (mBin fIx (mN 0) (mK (.int 0)))) (aCons (mV (mBin fIx (mN 0) (mK (.int 1)))) aNil))))) aNil))))) 1048576) (sRet (mBin fIx (mN 0) (mK (.int 0))))))
noncomputable def sem__law_many_calls : Fs := bodyF 2 0 sb__law_many_calls
theorem kn__law_many_calls (D : Df K mg "_law_many_calls" st__law_many_calls) (m_len : mg "len" = none) : Kn P w K mg base "_law_many_calls" 1 sem__law_many_calls :=
  kn_def (k := 0) (N := ["_law_some", "_law_sign"]) (ps := []) (sb := sb__law_many_calls) D ⟨rfl, rfl, rfl, by decide +kernel, rfl, by decide +kernel, by decide +kernel⟩ (fun _ _ _ _ _ _ us hl => match us, hl with | [], _ => rfl) (fun cdv f A outer s H E B =>
    (x_cons (x_setLc (i := 0) (own := [("_law_sign", 1)]) B.cm B.nd rfl rfl rfl (i_seq s_str) (show BlkOk ["_law_some", "_law_sign"] (defScope st__law_many_calls) _ _ from ⟨rfl, by decide +kernel, by decide +kernel, by decide +kernel, by decide +kernel⟩) (fun s1 H1 A1 cl1 fp1 => (t_name (pg_name (i := 1) (B.blk s1 H1 _ _ fp1).nd rfl (by first | exact .inl rfl | exact .inr rfl)))) (fun s1 H1 A1 cl1 fp1 => pts_yes) (fun s1 H1 A1 cl1 fp1 => (s_tup (a_cons s_str (a_cons (s_add s_str (s_name (pv 1))) (a_cons (s_tup (a_cons s_int (a_cons s_int a_nil))) (a_cons s_none (a_cons s_bool a_nil))))))) (by decide) (by intro _; rfl) mV (.inl rfl)) (x_cons (x_while 1048576 B.hp (t_gt (k_len B (by rfl) m_len (a_cons (s_name (pv 0)) a_nil)) s_int) (x_one (x_asg (pv_frz (s_add (s_sl (s_name (pv 0)) (o_some s_int) o_none) (s_lst (a_cons (s_tup (a_cons s_str (a_cons (s_ix (s_name (pv 0)) s_int (fun _ _ => rfl)) (a_cons (s_ix (s_name (pv 0)) s_int (fun _ _ => rfl)) a_nil)))) a_nil)))) (t_name (pg_name (i := 0) B.nd rfl (by first | exact .inl rfl | exact .inr rfl)))))) (x_one (x_ret (s_ix (s_name (pv 0)) s_int (fun _ _ => rfl)))))))
noncomputable def sb_is_span : Sv := (sSeq (sIf (bOr (bNot (mTru (mIsi "tuple" (mN 0)))) (bOr (mCmp gNe (mCal (gLen) (aCons (mV (mN 0)) aNil)) (mK (.int 2))) (bNot (mTru (mCal (g1 fAll) (aCons (mV (mLc (iOf (mN 0)) (gNm 1) ttY (mCall sem_is_number (aCons (mV (mN 1)) aNil)) [1])) aNil)))))) (sRet (mK (.bool false))) sNil) (sRet (bV (mCmp (gI fun i j => decide (i ≤ j)) (mBin fIx (mN 0) (mK (.int 0))) (mBin fIx (mN 0) (mK (.int 1)))))))
noncomputable def sem_is_span : Fs := bodyF 2 1 sb_is_span
theorem kn_is_span (D : Df K mg "is_span" st_is_span) (G_is_number : Kn P w K mg base "is_number" 1 sem_is_number) (m_all : mg "all" = none) (m_isinstance : mg "isinstance" = none) (m_len : mg "len" = none) (m_tuple : mg "tuple" = none) (c_SPAN_PARTS : ∃ t, mg "SPAN_PARTS" = some (.int 2 t)) : Kn P w K mg base "is_span" 2 sem_is_span :=
  kn_def (k := 1) (N := ["value", "end"]) (ps := ["value"]) (sb := sb_is_span) D ⟨rfl, rfl, rfl, by decide +kernel, rfl, by decide +kernel, by decide +kernel⟩ (fun _ _ _ _ _ _ us hl => match us, hl with | [_], _ => rfl) (fun cdv f A outer s H E B =>
    (x_cons (x_if (PW.pt (w_or (s_notT (s_test (s_isi (by rfl) m_isinstance (s_name (pv 0)) (by rfl) m_tuple (by decide +kernel)) (fun _ => rfl))) (w_or (t_ne B (k_len B (by rfl) m_len (a_cons (s_name (pv 0)) a_nil)) (s_gi (by rfl) c_SPAN_PARTS)) (w_or1 (s_notT (s_test (k_all B (by rfl) m_all (a_cons (s_lc (own := [("end", 1)]) B.cm B.nd (i_seq (s_name (pv 0))) (show BlkOk ["value", "end"] (defScope st_is_span) _ _ from ⟨rfl, by decide +kernel, by decide +kernel, by decide +kernel, by decide +kernel⟩) (fun s1 H1 A1 cl1 fp1 => (t_name (pg_name (i := 1) (B.blk s1 H1 _ _ fp1).nd rfl (by first | exact .inl rfl | exact .inr rfl)))) (fun s1 H1 A1 cl1 fp1 => pts_yes) (fun s1 H1 A1 cl1 fp1 => (s_call (B.blk s1 H1 _ _ fp1) G_is_number (by decide) (by rfl) (a_cons (s_name (pv 1)) a_nil))) (by decide)) a_nil)) (fun _ => rfl))))))) (x_one (x_ret s_bool)) x_nil) (x_one (x_ret (v_le (s_ix (s_name (pv 0)) s_int (fun _ _ => rfl)) (s_ix (s_name (pv 0)) s_int (fun _ _ => rfl)))))))
noncomputable def sb_has_number : Sv := (sSeq (sIf (mCmp gEq (mN 0) (mK (.str "wait"))) (sRet (mCall sem_is_number (aCons (mV (mN 1)) aNil))) sNil) (sSeq (sIf (mCmp gEq (mN 0) (mK (.str "retry"))) (sRet (eAnd (mIsi "tuple" (mN 1)) (eAnd (bV (mCmp (gI fun i j => decide (i ≤ j)) (mCal (gLen) (aCons (mV (mN 1)) aNil)) (mK (.int 5)))) (mCal (g1 fAll) (aCons (mV (mLc (iOf (mN 1)) (gNm 2) ttY (mCall sem_is_number (aCons (mV (mN 2)) aNil)) [2])) aNil))))) sNil) (sRet (eOr (bV (mCmp gIsN (mN 1) (mK .none))) (mCall sem_is_number (aCons (mV (mN 1)) aNil))))))
noncomputable def sem_has_number : Fs := bodyF 3 2 sb_has_number
theorem kn_has_number (D : Df K mg "has_number" st_has_number) (G_is_number : Kn P w K mg base "is_number" 1 sem_is_number) (m_all : mg "all" = none) (m_isinstance : mg "isinstance" = none) (m_len : mg "len" = none) (m_tuple : mg "tuple" = none) (c_MOST_PAUSES : ∃ t, mg "MOST_PAUSES" = some (.int 5 t)) (c_RETRY : ∃ t, mg "RETRY" = some (.str "retry" t)) (c_WAIT : ∃ t, mg "WAIT" = some (.str "wait" t)) : Kn P w K mg base "has_number" 2 sem_has_number :=
  kn_def (k := 1) (N := ["kind", "number", "one"]) (ps := ["kind", "number"]) (sb := sb_has_number) D ⟨rfl, rfl, rfl, by decide +kernel, rfl, by decide +kernel, by decide +kernel⟩ (fun _ _ _ _ _ _ us hl => match us, hl with | [_, _], _ => rfl) (fun cdv f A outer s H E B =>
    (x_cons (x_if (t_eq B (s_name (pv 0)) (s_gs (by rfl) c_WAIT)) (x_one (x_ret (s_call B G_is_number (by decide) (by rfl) (a_cons (s_name (pv 1)) a_nil)))) x_nil) (x_cons (x_if (t_eq B (s_name (pv 0)) (s_gs (by rfl) c_RETRY)) (x_one (x_ret (s_and (s_isi (by rfl) m_isinstance (s_name (pv 1)) (by rfl) m_tuple (by decide +kernel)) (s_and (v_le (k_len B (by rfl) m_len (a_cons (s_name (pv 1)) a_nil)) (s_gi (by rfl) c_MOST_PAUSES)) (s_one (k_all B (by rfl) m_all (a_cons (s_lc (own := [("one", 2)]) B.cm B.nd (i_seq (s_name (pv 1))) (show BlkOk ["kind", "number", "one"] (defScope st_has_number) _ _ from ⟨rfl, by decide +kernel, by decide +kernel, by decide +kernel, by decide +kernel⟩) (fun s1 H1 A1 cl1 fp1 => (t_name (pg_name (i := 2) (B.blk s1 H1 _ _ fp1).nd rfl (by first | exact .inl rfl | exact .inr rfl)))) (fun s1 H1 A1 cl1 fp1 => pts_yes) (fun s1 H1 A1 cl1 fp1 => (s_call (B.blk s1 H1 _ _ fp1) G_is_number (by decide) (by rfl) (a_cons (s_name (pv 2)) a_nil))) (by decide)) a_nil))))))) x_nil) (x_one (x_ret (s_or (v_isN (s_name (pv 1)) s_none) (s_one (s_call B G_is_number (by decide) (by rfl) (a_cons (s_name (pv 1)) a_nil)))))))))
noncomputable def sb__law_of : Sv := (sRet (mBin fIx (mN 1) (mCall sem__law_next (aCons (mVc (mN 0)) (aCons (mV (mCal (gLen) (aCons (mV (mN 1)) aNil))) aNil)))))
noncomputable def sem__law_of : Fs := bodyF 2 2 sb__law_of
theorem kn__law_of (D : Df K mg "_law_of" st__law_of) (G__law_next : Kn P w K mg base "_law_next" 1 sem__law_next) (m_len : mg "len" = none) : Kn P w K mg base "_law_of" 2 sem__law_of :=
  kn_def (k := 1) (N := ["_law_urn_here", "_law_some"]) (ps := ["_law_urn_here", "_law_some"]) (sb := sb__law_of) D ⟨rfl, rfl, rfl, by decide +kernel, rfl, by decide +kernel, by decide +kernel⟩ (fun _ _ _ _ _ _ us hl => match us, hl with | [_, _], _ => rfl) (fun cdv f A outer s H E B =>
    (x_one (x_ret (s_ix (s_name (pv 1)) (s_call B G__law_next (by decide) (by rfl) (a_consC (s_name (pv 0)) (a_cons (k_len B (by rfl) m_len (a_cons (s_name (pv 1)) a_nil)) a_nil))) (fun _ _ => rfl)))))
noncomputable def sb__law_span : Sv := (sSeq (sAsg (gNm 2) (mV (mCall sem__law_next (aCons (mVc (mN 0)) (aCons (mV (mBin fAdd (mN 1) (mK (.int 1)))) aNil))))) (sRet (mTup (aCons (mV (mN 2)) (aCons (mV (mBin fAdd (mN 2) (mCall sem__law_next (aCons (mVc (mN 0)) (aCons (mV (mCal (gII (fun i j => if j < i then j else i)) (aCons (mV (mK (.int 4))) (aCons (mV (mBin fAdd (mBin (fI (fun _ _ => true) fun i j => i - j) (mN 1) (mN 2)) (mK (.int 1)))) aNil)))) aNil))))) aNil)))))
noncomputable def sem__law_span : Fs := bodyF 3 2 sb__law_span
theorem kn__law_span (D : Df K mg "_law_span" st__law_span) (G__law_next : Kn P w K mg base "_law_next" 1 sem__law_next) (m_min : mg "min" = none) : Kn P w K mg base "_law_span" 2 sem__law_span :=
  kn_def (k := 1) (N := ["_law_urn_here", "_law_longest", "_law_low"]) (ps := ["_law_urn_here", "_law_longest"]) (sb := sb__law_span) D ⟨rfl, rfl, rfl, by decide +kernel, rfl, by decide +kernel, by decide +kernel⟩ (fun _ _ _ _ _ _ us hl => match us, hl with | [_, _], _ => rfl) (fun cdv f A outer s H E B =>
    (x_cons (x_asg (pv_frz (s_call B G__law_next (by decide) (by rfl) (a_consC (s_name (pv 0)) (a_cons (s_add (s_name (pv 1)) s_int) a_nil)))) (t_name (pg_name (i := 2) B.nd rfl (by first | exact .inl rfl | exact .inr rfl)))) (x_one (x_ret (s_tup (a_cons (s_name (pv 2)) (a_cons (s_add (s_name (pv 2)) (s_call B G__law_next (by decide) (by rfl) (a_consC (s_name (pv 0)) (a_cons (k_min B (by rfl) m_min (a_cons s_int (a_cons (s_add (s_sub (s_name (pv 1)) (s_name (pv 2))) s_int) a_nil))) a_nil)))) a_nil)))))))
noncomputable def sb__law_fresh : Sv := (sSeq (sPar [2, 3] (aCons (mVc (mLc (iOf (mSl (mK (.str "abcdefghijklmnopqrst")) oNone (oSome (mN 1)))) (gNm 4) ttY (mBin fAdd (mK (.str "n")) (mN 4)) [4])) (aCons (mVc (mLst aNil)) aNil))) (sSeq (whGo (mCmp gNe (mN 2) (mLst aNil)) (sExp (mApp (mN 3) (mPopA (mN 2) (mCall sem__law_next (aCons (mVc (mN 0)) (aCons (mV (mCal (gLen) (aCons (mV (mN 2)) aNil))) aNil)))))) 1048576) (sRet (mN 3))))
noncomputable def sem__law_fresh : Fs := bodyF 5 2 sb__law_fresh
theorem kn__law_fresh (D : Df K mg "_law_fresh" st__law_fresh) (G__law_next : Kn P w K mg base "_law_next" 1 sem__law_next) (m_len : mg "len" = none) : Kn P w K mg base "_law_fresh" 2 sem__law_fresh :=
  kn_def (k := 1) (N := ["_law_urn_here", "_law_count", "_law_left", "_law_found", "_law_sign"]) (ps := ["_law_urn_here", "_law_count"]) (sb := sb__law_fresh) D ⟨rfl, rfl, rfl, by decide +kernel, rfl, by decide +kernel, by decide +kernel⟩ (fun _ _ _ _ _ _ us hl => match us, hl with | [_, _], _ => rfl) (fun cdv f A outer s H E B =>
    (x_cons (x_par (ps_par B.cm B.nd rfl rfl (by decide) rfl rfl (a_consC (s_lc (own := [("_law_sign", 4)]) B.cm B.nd (i_seq (s_sl s_str o_none (o_some (s_name (pv 1))))) (show BlkOk ["_law_urn_here", "_law_count", "_law_left", "_law_found", "_law_sign"] (defScope st__law_fresh) _ _ from ⟨rfl, by decide +kernel, by decide +kernel, by decide +kernel, by decide +kernel⟩) (fun s1 H1 A1 cl1 fp1 => (t_name (pg_name (i := 4) (B.blk s1 H1 _ _ fp1).nd rfl (by first | exact .inl rfl | exact .inr rfl)))) (fun s1 H1 A1 cl1 fp1 => pts_yes) (fun s1 H1 A1 cl1 fp1 => (s_add s_str (s_name (pv 4)))) (by decide)) (a_consC (s_lst a_nil) a_nil)) rfl)) (x_cons (x_while 1048576 B.hp (t_ne B (s_name (pv 2)) (s_lst a_nil)) (x_one (x_expr (y_app (s_name (pv 3)) (y_popA (s_name (pv 2)) (s_call B G__law_next (by decide) (by rfl) (a_consC (s_name (pv 0)) (a_cons (k_len B (by rfl) m_len (a_cons (s_name (pv 2)) a_nil)) a_nil)))))))) (x_one (x_ret (s_name (pv 3)))))))
noncomputable def sb_with_labels (sem : Fs) : Sv := (sSeq (sIf (mCmp gEq (mBin fIx (mN 0) (mK (.int 0))) (mK (.str "call"))) (sRet (mBin fAdd (mTup (aCons (mV (mK (.str "call"))) (aCons (mV (mBin fDix (mN 1) (mBin fIx (mN 0) (mK (.int 1))))) aNil))) (mSl (mN 0) (oSome (mK (.int 2))) oNone))) sNil) (sRet (mCall sem_with_inner (aCons (mV (mN 0)) (aCons (mV (mLc (iOf (mCall sem_inner (aCons (mV (mN 0)) aNil))) (gNm 2) ttY (mCall sem (aCons (mV (mN 2)) (aCons (mV (mN 1)) aNil))) [2])) aNil)))))
noncomputable def sem_with_labels : Nat → Fs
  | 0 => fun _ _ => .no
  | n + 1 => bodyF 3 2 (sb_with_labels (sem_with_labels n))
theorem kn_with_labels_all (D : Df K mg "with_labels" st_with_labels) (G_inner : Kn P w K mg base "inner" 1 sem_inner) (G_with_inner : Kn P w K mg base "with_inner" 1 sem_with_inner) (c_CALL : ∃ t, mg "CALL" = some (.str "call" t)) : ∀ n, Kn P w K mg base "with_labels" (2 + 1 * n) (sem_with_labels n)
  | 0 => Kn.less (kn_def (k := 1) (N := ["policy", "names", "part"]) (ps := ["policy", "names"]) (sb := fun _ _ => .no) D ⟨rfl, rfl, rfl, by decide +kernel, rfl, by decide +kernel, by decide +kernel⟩ (fun _ _ _ _ _ _ us hl => match us, hl with | [_, _], _ => rfl) (fun cdv f A outer s H E B =>
    x_no)) (fun _ _ => .inl rfl)
  | n + 1 => by
    have G_with_labels := kn_with_labels_all D G_inner G_with_inner c_CALL n
    exact kn_def (k := 2 + 1 * n + 0) (N := ["policy", "names", "part"]) (ps := ["policy", "names"]) (sb := sb_with_labels (sem_with_labels n)) D ⟨rfl, rfl, rfl, by decide +kernel, rfl, by decide +kernel, by decide +kernel⟩ (fun _ _ _ _ _ _ us hl => match us, hl with | [_, _], _ => rfl) (fun cdv f A outer s H E B =>
    (x_cons (x_if (t_eq B (s_ix (s_name (pv 0)) s_int (fun _ _ => rfl)) (s_gs (by rfl) c_CALL)) (x_one (x_ret (s_add (s_tup (a_cons (s_gs (by rfl) c_CALL) (a_cons (s_dix B (s_name (pv 1)) (s_ix (s_name (pv 0)) s_int (fun _ _ => rfl)) (fun _ _ => rfl)) a_nil))) (s_sl (s_name (pv 0)) (o_some s_int) o_none)))) x_nil) (x_one (x_ret (s_call B G_with_inner (by omega) (by rfl) (a_cons (s_name (pv 0)) (a_cons (s_lc (own := [("part", 2)]) B.cm B.nd (i_seq (s_call B G_inner (by omega) (by rfl) (a_cons (s_name (pv 0)) a_nil))) (show BlkOk ["policy", "names", "part"] (defScope st_with_labels) _ _ from ⟨rfl, by decide +kernel, by decide +kernel, by decide +kernel, by decide +kernel⟩) (fun s1 H1 A1 cl1 fp1 => (t_name (pg_name (i := 2) (B.blk s1 H1 _ _ fp1).nd rfl (by first | exact .inl rfl | exact .inr rfl)))) (fun s1 H1 A1 cl1 fp1 => pts_yes) (fun s1 H1 A1 cl1 fp1 => (s_call (B.blk s1 H1 _ _ fp1) G_with_labels (by omega) (by rfl) (a_cons (s_name (pv 2)) (a_cons (s_name (pv 1)) a_nil)))) (by decide)) a_nil)))))))
theorem kn_with_labels (D : Df K mg "with_labels" st_with_labels) (G_inner : Kn P w K mg base "inner" 1 sem_inner) (G_with_inner : Kn P w K mg base "with_inner" 1 sem_with_inner) (c_CALL : ∃ t, mg "CALL" = some (.str "call" t)) : Kn P w K mg base "with_labels" 27 (sem_with_labels 25) := kn_with_labels_all D G_inner G_with_inner c_CALL 25
noncomputable def sb__law_calls (sem : Fs) : Sv := (sSeq (sIf (mCmp gEq (mBin fIx (mN 0) (mK (.int 0))) (mK (.str "call"))) (sRet (mDct [((mBin fIx (mN 0) (mK (.int 1))), (mN 0))])) sNil) (sSeq (sAsg (gNm 1) (mVc mD0)) (sSeq (sFor (iOf (mCall sem__law_inner (aCons (mV (mN 0)) aNil))) (gNm 2) (sExp (mUpd (mN 1) (mCall sem (aCons (mV (mN 2)) aNil))))) (sRet (mN 1)))))
noncomputable def sem__law_calls : Nat → Fs
  | 0 => fun _ _ => .no
  | n + 1 => bodyF 3 1 (sb__law_calls (sem__law_calls n))
theorem kn__law_calls_all (D : Df K mg "_law_calls" st__law_calls) (G__law_inner : Kn P w K mg base "_law_inner" 1 sem__law_inner) : ∀ n, Kn P w K mg base "_law_calls" (2 + 1 * n) (sem__law_calls n)
  | 0 => Kn.less (kn_def (k := 1) (N := ["_law_policy_here", "_law_found", "_law_part"]) (ps := ["_law_policy_here"]) (sb := fun _ _ => .no) D ⟨rfl, rfl, rfl, by decide +kernel, rfl, by decide +kernel, by decide +kernel⟩ (fun _ _ _ _ _ _ us hl => match us, hl with | [_], _ => rfl) (fun cdv f A outer s H E B =>
    x_no)) (fun _ _ => .inl rfl)
  | n + 1 => by
    have G__law_calls := kn__law_calls_all D G__law_inner n
    exact kn_def (k := 2 + 1 * n + 0) (N := ["_law_policy_here", "_law_found", "_law_part"]) (ps := ["_law_policy_here"]) (sb := sb__law_calls (sem__law_calls n)) D ⟨rfl, rfl, rfl, by decide +kernel, rfl, by decide +kernel, by decide +kernel⟩ (fun _ _ _ _ _ _ us hl => match us, hl with | [_], _ => rfl) (fun cdv f A outer s H E B =>
    (x_cons (x_if (t_eq B (s_ix (s_name (pv 0)) s_int (fun _ _ => rfl)) s_str) (x_one (x_ret (s_dct (pps_cons (pv_frz (s_ix (s_name (pv 0)) s_int (fun _ _ => rfl))) (pv_frz (s_name (pv 0))) pps_nil) rfl rfl (by simp) (by decide)))) x_nil) (x_cons (x_asg (pv_cell s_d0) (t_name (pg_name (i := 1) B.nd rfl (by first | exact .inl rfl | exact .inr rfl)))) (x_cons (x_for B.hp B.cm (i_seq (s_call B G__law_inner (by omega) (by rfl) (a_cons (s_name (pv 0)) a_nil))) (t_name (pg_name (i := 2) B.nd rfl (by first | exact .inl rfl | exact .inr rfl))) (x_one (x_expr (y_upd (s_name (pv 1)) (s_call B G__law_calls (by omega) (by rfl) (a_cons (s_name (pv 2)) a_nil)))))) (x_one (x_ret (s_name (pv 1))))))))
theorem kn__law_calls (D : Df K mg "_law_calls" st__law_calls) (G__law_inner : Kn P w K mg base "_law_inner" 1 sem__law_inner) : Kn P w K mg base "_law_calls" 27 (sem__law_calls 25) := kn__law_calls_all D G__law_inner 25
noncomputable def sb__law_called (sem : Fs) : Sv := (sSeq (sIf (mCmp gEq (mBin fIx (mN 0) (mK (.int 0))) (mK (.str "call"))) (sRet (mBin fAdd (mTup (aCons (mV (mK (.str "call"))) (aCons (mV (mBin fDix (mN 1) (mBin fIx (mN 0) (mK (.int 1))))) aNil))) (mSl (mN 0) (oSome (mK (.int 2))) oNone))) sNil) (sSeq (sAsg (gNm 2) (mV (mLc (iOf (mCall sem__law_inner (aCons (mV (mN 0)) aNil))) (gNm 3) ttY (mCall sem (aCons (mV (mN 3)) (aCons (mV (mN 1)) aNil))) [3]))) (sRet (mBin fAdd (mSl (mN 0) oNone (oSome (mBin (fI (fun _ _ => true) fun i j => i - j) (mCal (gLen) (aCons (mV (mN 0)) aNil)) (mCal (gLen) (aCons (mV (mN 2)) aNil))))) (mCal (g1 fTuple) (aCons (mV (mN 2)) aNil))))))
noncomputable def sem__law_called : Nat → Fs
  | 0 => fun _ _ => .no
  | n + 1 => bodyF 4 2 (sb__law_called (sem__law_called n))
theorem kn__law_called_all (D : Df K mg "_law_called" st__law_called) (G__law_inner : Kn P w K mg base "_law_inner" 1 sem__law_inner) (m_len : mg "len" = none) (m_tuple : mg "tuple" = none) : ∀ n, Kn P w K mg base "_law_called" (2 + 1 * n) (sem__law_called n)
  | 0 => Kn.less (kn_def (k := 1) (N := ["_law_plan", "_law_book", "_law_some", "_law_part"]) (ps := ["_law_plan", "_law_book"]) (sb := fun _ _ => .no) D ⟨rfl, rfl, rfl, by decide +kernel, rfl, by decide +kernel, by decide +kernel⟩ (fun _ _ _ _ _ _ us hl => match us, hl with | [_, _], _ => rfl) (fun cdv f A outer s H E B =>
    x_no)) (fun _ _ => .inl rfl)
  | n + 1 => by
    have G__law_called := kn__law_called_all D G__law_inner m_len m_tuple n
    exact kn_def (k := 2 + 1 * n + 0) (N := ["_law_plan", "_law_book", "_law_some", "_law_part"]) (ps := ["_law_plan", "_law_book"]) (sb := sb__law_called (sem__law_called n)) D ⟨rfl, rfl, rfl, by decide +kernel, rfl, by decide +kernel, by decide +kernel⟩ (fun _ _ _ _ _ _ us hl => match us, hl with | [_, _], _ => rfl) (fun cdv f A outer s H E B =>
    (x_cons (x_if (t_eq B (s_ix (s_name (pv 0)) s_int (fun _ _ => rfl)) s_str) (x_one (x_ret (s_add (s_tup (a_cons s_str (a_cons (s_dix B (s_name (pv 1)) (s_ix (s_name (pv 0)) s_int (fun _ _ => rfl)) (fun _ _ => rfl)) a_nil))) (s_sl (s_name (pv 0)) (o_some s_int) o_none)))) x_nil) (x_cons (x_setLc (i := 2) (own := [("_law_part", 3)]) B.cm B.nd rfl rfl rfl (i_seq (s_call B G__law_inner (by omega) (by rfl) (a_cons (s_name (pv 0)) a_nil))) (show BlkOk ["_law_plan", "_law_book", "_law_some", "_law_part"] (defScope st__law_called) _ _ from ⟨rfl, by decide +kernel, by decide +kernel, by decide +kernel, by decide +kernel⟩) (fun s1 H1 A1 cl1 fp1 => (t_name (pg_name (i := 3) (B.blk s1 H1 _ _ fp1).nd rfl (by first | exact .inl rfl | exact .inr rfl)))) (fun s1 H1 A1 cl1 fp1 => pts_yes) (fun s1 H1 A1 cl1 fp1 => (s_call (B.blk s1 H1 _ _ fp1) G__law_called (by omega) (by rfl) (a_cons (s_name (pv 3)) (a_cons (s_name (pv 1)) a_nil)))) (by decide) (by intro _; rfl) mV (.inl rfl)) (x_one (x_ret (s_add (s_sl (s_name (pv 0)) o_none (o_some (s_sub (k_len B (by rfl) m_len (a_cons (s_name (pv 0)) a_nil)) (k_len B (by rfl) m_len (a_cons (s_name (pv 2)) a_nil))))) (k_tuple (by rfl) m_tuple (a_cons (s_name (pv 2)) a_nil))))))))
theorem kn__law_called (D : Df K mg "_law_called" st__law_called) (G__law_inner : Kn P w K mg base "_law_inner" 1 sem__law_inner) (m_len : mg "len" = none) (m_tuple : mg "tuple" = none) : Kn P w K mg base "_law_called" 14 (sem__law_called 12) := kn__law_called_all D G__law_inner m_len m_tuple 12
noncomputable def sb_is_call : Sv := (sSeq (sAsg (gTp 5 (gCons9 (gNm 1) (gCons9 (gNm 2) (gCons9 (gNm 3) (gCons9 (gNm 4) (gCons9 (gNm 5) gNil9)))))) (mV (mN 0))) (sSeq (sIf (bOr (bNot (mTru (mCall sem_is_label (aCons (mV (mN 2)) aNil)))) (bNot (mTru (mIsi "bool" (mN 5))))) (sRet (mK (.bool false))) sNil) (sSeq (sIf (bNot (mTru (mCal (g1 fAll) (aCons (mV (mLc (iOf (mTup (aCons (mV (mN 3)) (aCons (mV (mN 4)) aNil)))) (gNm 6) ttY (eOr (bV (mCmp gIsN (mN 6) (mK .none))) (mCall sem_is_span (aCons (mV (mN 6)) aNil))) [6])) aNil)))) (sRet (mK (.bool false))) sNil) (sRet (eOr (mN 5) (eOr (bV (mCmp gNotN (mN 3) (mK .none))) (bV (mCmp gNotN (mN 4) (mK .none)))))))))
noncomputable def sem_is_call : Fs := bodyF 7 1 sb_is_call
theorem kn_is_call (D : Df K mg "is_call" st_is_call) (G_is_label : Kn P w K mg base "is_label" 1 sem_is_label) (G_is_span : Kn P w K mg base "is_span" 2 sem_is_span) (m_all : mg "all" = none) (m_bool : mg "bool" = none) (m_isinstance : mg "isinstance" = none) : Kn P w K mg base "is_call" 3 sem_is_call :=
  kn_def (k := 2) (N := ["value", "kind", "label", "good", "bad", "hangs", "span"]) (ps := ["value"]) (sb := sb_is_call) D ⟨rfl, rfl, rfl, by decide +kernel, rfl, by decide +kernel, by decide +kernel⟩ (fun _ _ _ _ _ _ us hl => match us, hl with | [_], _ => rfl) (fun cdv f A outer s H E B =>
    (x_cons (x_asg (pv_frz (s_name (pv 0))) (t_tup B.cm (t_cons (t_name (pg_name (i := 1) B.nd rfl (by first | exact .inl rfl | exact .inr rfl))) (t_cons (t_name (pg_name (i := 2) B.nd rfl (by first | exact .inl rfl | exact .inr rfl))) (t_cons (t_name (pg_name (i := 3) B.nd rfl (by first | exact .inl rfl | exact .inr rfl))) (t_cons (t_name (pg_name (i := 4) B.nd rfl (by first | exact .inl rfl | exact .inr rfl))) (t_cons (t_name (pg_name (i := 5) B.nd rfl (by first | exact .inl rfl | exact .inr rfl))) t_nil))))))) (x_cons (x_if (PW.pt (w_or (s_notT (s_test (s_call B G_is_label (by decide) (by rfl) (a_cons (s_name (pv 2)) a_nil)) (fun _ => rfl))) (w_or1 (s_notT (s_test (s_isi (by rfl) m_isinstance (s_name (pv 5)) (by rfl) m_bool (by decide +kernel)) (fun _ => rfl)))))) (x_one (x_ret s_bool)) x_nil) (x_cons (x_if (s_notT (s_test (k_all B (by rfl) m_all (a_cons (s_lc (own := [("span", 6)]) B.cm B.nd (i_seq (s_tup (a_cons (s_name (pv 3)) (a_cons (s_name (pv 4)) a_nil)))) (show BlkOk ["value", "kind", "label", "good", "bad", "hangs", "span"] (defScope st_is_call) _ _ from ⟨rfl, by decide +kernel, by decide +kernel, by decide +kernel, by decide +kernel⟩) (fun s1 H1 A1 cl1 fp1 => (t_name (pg_name (i := 6) (B.blk s1 H1 _ _ fp1).nd rfl (by first | exact .inl rfl | exact .inr rfl)))) (fun s1 H1 A1 cl1 fp1 => pts_yes) (fun s1 H1 A1 cl1 fp1 => (s_or (v_isN (s_name (pv 6)) s_none) (s_one (s_call (B.blk s1 H1 _ _ fp1) G_is_span (by decide) (by rfl) (a_cons (s_name (pv 6)) a_nil))))) (by decide)) a_nil)) (fun _ => rfl))) (x_one (x_ret s_bool)) x_nil) (x_one (x_ret (s_or (s_name (pv 5)) (s_or (v_notN (s_name (pv 3)) s_none) (s_one (v_notN (s_name (pv 4)) s_none))))))))))
noncomputable def sb__law_call : Sv := (sSeq (sPar [3, 4] (aCons (mV (mCall sem__law_next (aCons (mVc (mN 0)) (aCons (mV (mK (.int 5))) aNil)))) (aCons (mV (bV (mCmp gEq (mCall sem__law_next (aCons (mVc (mN 0)) (aCons (mV (mK (.int 4))) aNil))) (mK (.int 0))))) aNil))) (sSeq (sAsg (gNm 5) (mV (eIf (mCmp gNe (mN 3) (mK (.int 3))) (mCall sem__law_span (aCons (mVc (mN 0)) (aCons (mV (mN 2)) aNil))) (mK .none)))) (sSeq (sAsg (gNm 6) (mV (eIf (mCmp (gIn false) (mN 3) (mTup (aCons (mV (mK (.int 1))) (aCons (mV (mK (.int 2))) (aCons (mV (mK (.int 3))) aNil))))) (mCall sem__law_span (aCons (mVc (mN 0)) (aCons (mV (mN 2)) aNil))) (mK .none)))) (sRet (mTup (aCons (mV (mK (.str "call"))) (aCons (mV (mN 1)) (aCons (mV (mN 5)) (aCons (mV (mN 6)) (aCons (mV (mN 4)) aNil))))))))))
noncomputable def sem__law_call : Fs := bodyF 7 3 sb__law_call
theorem kn__law_call (D : Df K mg "_law_call" st__law_call) (G__law_next : Kn P w K mg base "_law_next" 1 sem__law_next) (G__law_span : Kn P w K mg base "_law_span" 2 sem__law_span) : Kn P w K mg base "_law_call" 3 sem__law_call :=
  kn_def (k := 2) (N := ["_law_urn_here", "_law_label_here", "_law_longest", "_law_way", "_law_hangs", "_law_good", "_law_bad"]) (ps := ["_law_urn_here", "_law_label_here", "_law_longest"]) (sb := sb__law_call) D ⟨rfl, rfl, rfl, by decide +kernel, rfl, by decide +kernel, by decide +kernel⟩ (fun _ _ _ _ _ _ us hl => match us, hl with | [_, _, _], _ => rfl) (fun cdv f A outer s H E B =>
    (x_cons (x_par (ps_par B.cm B.nd rfl rfl (by decide) rfl rfl (a_cons (s_call B G__law_next (by decide) (by rfl) (a_consC (s_name (pv 0)) (a_cons s_int a_nil))) (a_cons (v_eq B (s_call B G__law_next (by decide) (by rfl) (a_consC (s_name (pv 0)) (a_cons s_int a_nil))) s_int) a_nil)) rfl)) (x_cons (x_asg (pv_frz (s_ifE (t_ne B (s_name (pv 3)) s_int) (s_call B G__law_span (by decide) (by rfl) (a_consC (s_name (pv 0)) (a_cons (s_name (pv 2)) a_nil))) s_none)) (t_name (pg_name (i := 5) B.nd rfl (by first | exact .inl rfl | exact .inr rfl)))) (x_cons (x_asg (pv_frz (s_ifE (t_in (s_name (pv 3)) (s_tup (a_cons s_int (a_cons s_int (a_cons s_int a_nil)))) rfl) (s_call B G__law_span (by decide) (by rfl) (a_consC (s_name (pv 0)) (a_cons (s_name (pv 2)) a_nil))) s_none)) (t_name (pg_name (i := 6) B.nd rfl (by first | exact .inl rfl | exact .inr rfl)))) (x_one (x_ret (s_tup (a_cons s_str (a_cons (s_name (pv 1)) (a_cons (s_name (pv 5)) (a_cons (s_name (pv 6)) (a_cons (s_name (pv 4)) a_nil))))))))))))
noncomputable def sb_has_form : Sv := (sSeq (sIf (bOr (bNot (mTru (mIsi "tuple" (mN 0)))) (bOr (mCmp gEq (mN 0) (mTup aNil)) (bNot (mTru (mIsi "str" (mBin fIx (mN 0) (mK (.int 0)))))))) (sRet (mK (.bool false))) sNil) (sSeq (sIf (mCmp gNe (mTabG [("call", 5), ("wait", 2), ("then", 3), ("fallback", 4), ("retry", 3), ("timeout", 3), ("race", 4), ("hedge", 4), ("both", 3)] (mBin fIx (mN 0) (mK (.int 0)))) (mCal (gLen) (aCons (mV (mN 0)) aNil))) (sRet (mK (.bool false))) sNil) (sSeq (sIf (mCmp gEq (mBin fIx (mN 0) (mK (.int 0))) (mK (.str "call"))) (sRet (mCall sem_is_call (aCons (mV (mN 0)) aNil))) sNil) (sRet (eOr (bV (mCmp (gIn true) (mBin fIx (mN 0) (mK (.int 0))) (mK (.tuple [.str "wait", .str "retry", .str "fallback", .str "timeout", .str "race", .str "hedge"])))) (mCall sem_has_number (aCons (mV (mBin fIx (mN 0) (mK (.int 0)))) (aCons (mV (mBin fIx (mN 0) (mK (.int 1)))) aNil))))))))
noncomputable def sem_has_form : Fs := bodyF 1 1 sb_has_form
theorem kn_has_form (D : Df K mg "has_form" st_has_form) (G_has_number : Kn P w K mg base "has_number" 2 sem_has_number) (G_is_call : Kn P w K mg base "is_call" 3 sem_is_call) (m_isinstance : mg "isinstance" = none) (m_len : mg "len" = none) (m_str : mg "str" = none) (m_tuple : mg "tuple" = none) (c_CALL : ∃ t, mg "CALL" = some (.str "call" t)) (tab_SIZES : TabC K w mg "SIZES" [("call", 5), ("wait", 2), ("then", 3), ("fallback", 4), ("retry", 3), ("timeout", 3), ("race", 4), ("hedge", 4), ("both", 3)]) (tup_NUMBERED : TupC K mg "NUMBERED" ["wait", "retry", "fallback", "timeout", "race", "hedge"]) : Kn P w K mg base "has_form" 4 sem_has_form :=
  kn_def (k := 3) (N := ["value"]) (ps := ["value"]) (sb := sb_has_form) D ⟨rfl, rfl, rfl, by decide +kernel, rfl, by decide +kernel, by decide +kernel⟩ (fun _ _ _ _ _ _ us hl => match us, hl with | [_], _ => rfl) (fun cdv f A outer s H E B =>
    (x_cons (x_if (PW.pt (w_or (s_notT (s_test (s_isi (by rfl) m_isinstance (s_name (pv 0)) (by rfl) m_tuple (by decide +kernel)) (fun _ => rfl))) (w_or (t_eq B (s_name (pv 0)) (s_tup a_nil)) (w_or1 (s_notT (s_test (s_isi (by rfl) m_isinstance (s_ix (s_name (pv 0)) s_int (fun _ _ => rfl)) (by rfl) m_str (by decide +kernel)) (fun _ => rfl))))))) (x_one (x_ret s_bool)) x_nil) (x_cons (x_if (t_ne B (s_tabG tab_SIZES (by rfl) (s_ix (s_name (pv 0)) s_int (fun _ _ => rfl)) ⟨by rfl, by rfl, by rfl, by rfl⟩) (k_len B (by rfl) m_len (a_cons (s_name (pv 0)) a_nil))) (x_one (x_ret s_bool)) x_nil) (x_cons (x_if (t_eq B (s_ix (s_name (pv 0)) s_int (fun _ _ => rfl)) (s_gs (by rfl) c_CALL)) (x_one (x_ret (s_call B G_is_call (by decide) (by rfl) (a_cons (s_name (pv 0)) a_nil)))) x_nil) (x_one (x_ret (s_or (v_inC (neg := true) op_notIn_seq B.hK tup_NUMBERED (by rfl) (s_ix (s_name (pv 0)) s_int (fun _ _ => rfl)) rfl) (s_one (s_call B G_has_number (by decide) (by rfl) (a_cons (s_ix (s_name (pv 0)) s_int (fun _ _ => rfl)) (a_cons (s_ix (s_name (pv 0)) s_int (fun _ _ => rfl)) a_nil)))))))))))
noncomputable def sb__law_grown (sem : Fs) : Sv := (sSeq (sAsg (gPl (mN 1) (mK (.int 0))) (mV (mBin (fI (fun _ _ => true) fun i j => i - j) (mBin fIx (mN 1) (mK (.int 0))) (mK (.int 1))))) (sSeq (sAsg (gNm 4) (mV (mK (.str "call")))) (sSeq (sIf (bAnd (mCmp (gI fun i j => decide (j < i)) (mBin fIx (mN 1) (mK (.int 0))) (mK (.int 0))) (mCmp (gI fun i j => decide (j < i)) (mN 3) (mK (.int 0)))) (sSeq (sAsg (gNm 5) (mV (mLst (aCons (mV (mK (.str "call"))) (aCons (mV (mK (.str "timeout"))) (aCons (mV (mK (.str "retry"))) (aCons (mV (mK (.str "wait"))) (aCons (mV (mK (.str "timeout"))) aNil)))))))) (sSeq (sIf (mCmp (gI fun i j => decide (j < i)) (mBin fIx (mN 1) (mK (.int 0))) (mK (.int 1))) (sAsg (gNm 5) (mV (mBin fAdd (mN 5) (mLst (aCons (mV (mK (.str "then"))) (aCons (mV (mK (.str "fallback"))) (aCons (mV (mK (.str "race"))) (aCons (mV (mK (.str "hedge"))) (aCons (mV (mK (.str "both"))) (aCons (mV (mK (.str "fallback"))) (aCons (mV (mK (.str "race"))) (aCons (mV (mK (.str "hedge"))) aNil)))))))))))) sNil) (sAsg (gNm 4) (mV (mCall sem__law_of (aCons (mVc (mN 0)) (aCons (mV (mN 5)) aNil))))))) sNil) (sSeq (sIf (mCmp gEq (mN 4) (mK (.str "call"))) (sRet (mCall sem__law_call (aCons (mVc (mN 0)) (aCons (mV (mCall sem__law_label (aCons (mVc (mN 1)) aNil))) (aCons (mV (mN 2)) aNil))))) sNil) (sSeq (sIf (mCmp gEq (mN 4) (mK (.str "wait"))) (sRet (mTup (aCons (mV (mK (.str "wait"))) (aCons (mV (mCall sem__law_next (aCons (mVc (mN 0)) (aCons (mV (mBin fAdd (mN 2) (mK (.int 1)))) aNil)))) aNil)))) sNil) (sSeq (sAsg (gNm 6) (mV (eIf (mCmp gEq (mCall sem__law_next (aCons (mVc (mN 0)) (aCons (mV (mK (.int 9))) aNil))) (mK (.int 0))) (mK .none) (mCall sem__law_next (aCons (mVc (mN 0)) (aCons (mV (mBin fAdd (mN 2) (mK (.int 2)))) aNil)))))) (sSeq (sIf (mCmp gEq (mN 4) (mK (.str "retry"))) (sSeq (sAsg (gNm 7) (mV (mCal (g1 fTuple) (aCons (mV (mLc (iRg1 (aCons (mV (mCall sem__law_of (aCons (mVc (mN 0)) (aCons (mV (mLst (aCons (mV (mK (.int 1))) (aCons (mV (mK (.int 1))) (aCons (mV (mK (.int 2))) (aCons (mV (mK (.int 0))) aNil)))))) aNil)))) aNil)) (gNm 10) ttY (mCall sem__law_next (aCons (mVc (mN 0)) (aCons (mV (mK (.int 3))) aNil))) [10])) aNil)))) (sRet (mTup (aCons (mV (mK (.str "retry"))) (aCons (mV (mN 7)) (aCons (mV (mCall sem (aCons (mVc (mN 0)) (aCons (mVc (mN 1)) (aCons (mV (mN 2)) (aCons (mV (mBin (fI (fun _ _ => true) fun i j => i - j) (mN 3) (mK (.int 1)))) aNil)))))) aNil)))))) sNil) (sSeq (sIf (mCmp gEq (mN 4) (mK (.str "timeout"))) (sRet (mTup (aCons (mV (mK (.str "timeout"))) (aCons (mV (mN 6)) (aCons (mV (mCall sem (aCons (mVc (mN 0)) (aCons (mVc (mN 1)) (aCons (mV (mN 2)) (aCons (mV (mBin (fI (fun _ _ => true) fun i j => i - j) (mN 3) (mK (.int 1)))) aNil)))))) aNil))))) sNil) (sSeq (sAsg (gPl (mN 1) (mK (.int 0))) (mV (mBin (fI (fun _ _ => true) fun i j => i - j) (mBin fIx (mN 1) (mK (.int 0))) (mK (.int 1))))) (sSeq (sAsg (gNm 8) (mV (mCall sem (aCons (mVc (mN 0)) (aCons (mVc (mN 1)) (aCons (mV (mN 2)) (aCons (mV (mBin (fI (fun _ _ => true) fun i j => i - j) (mN 3) (mK (.int 1)))) aNil))))))) (sSeq (sAsg (gPl (mN 1) (mK (.int 0))) (mV (mBin fAdd (mBin fIx (mN 1) (mK (.int 0))) (mK (.int 1))))) (sSeq (sAsg (gNm 9) (mV (mCall sem (aCons (mVc (mN 0)) (aCons (mVc (mN 1)) (aCons (mV (mN 2)) (aCons (mV (mBin (fI (fun _ _ => true) fun i j => i - j) (mN 3) (mK (.int 1)))) aNil))))))) (sSeq (sIf (mCmp (gIn false) (mN 4) (mTup (aCons (mV (mK (.str "then"))) (aCons (mV (mK (.str "both"))) aNil)))) (sRet (mTup (aCons (mV (mN 4)) (aCons (mV (mN 8)) (aCons (mV (mN 9)) aNil))))) sNil) (sRet (mTup (aCons (mV (mN 4)) (aCons (mV (mN 6)) (aCons (mV (mN 8)) (aCons (mV (mN 9)) aNil)))))))))))))))))))
noncomputable def sem__law_grown : Nat → Fs
  | 0 => fun _ _ => .no
  | n + 1 => bodyF 11 4 (sb__law_grown (sem__law_grown n))
theorem kn__law_grown_all (D : Df K mg "_law_grown" st__law_grown) (G__law_call : Kn P w K mg base "_law_call" 3 sem__law_call) (G__law_label : Kn P w K mg base "_law_label" 1 sem__law_label) (G__law_next : Kn P w K mg base "_law_next" 1 sem__law_next) (G__law_of : Kn P w K mg base "_law_of" 2 sem__law_of) (m_range : mg "range" = none) (m_tuple : mg "tuple" = none) : ∀ n, Kn P w K mg base "_law_grown" (4 + 1 * n) (sem__law_grown n)
  | 0 => Kn.less (kn_def (k := 3) (N := ["_law_urn_here", "_law_left", "_law_longest", "_law_deep", "_law_kind", "_law_some", "_law_number", "_law_pauses", "_law_first", "_law_second", "_law_turn"]) (ps := ["_law_urn_here", "_law_left", "_law_longest", "_law_deep"]) (sb := fun _ _ => .no) D ⟨rfl, rfl, rfl, by decide +kernel, rfl, by decide +kernel, by decide +kernel⟩ (fun _ _ _ _ _ _ us hl => match us, hl with | [_, _, _, _], _ => rfl) (fun cdv f A outer s H E B =>
    x_no)) (fun _ _ => .inl rfl)
  | n + 1 => by
    have G__law_grown := kn__law_grown_all D G__law_call G__law_label G__law_next G__law_of m_range m_tuple n
    exact kn_def (k := 4 + 1 * n + 0) (N := ["_law_urn_here", "_law_left", "_law_longest", "_law_deep", "_law_kind", "_law_some", "_law_number", "_law_pauses", "_law_first", "_law_second", "_law_turn"]) (ps := ["_law_urn_here", "_law_left", "_law_longest", "_law_deep"]) (sb := sb__law_grown (sem__law_grown n)) D ⟨rfl, rfl, rfl, by decide +kernel, rfl, by decide +kernel, by decide +kernel⟩ (fun _ _ _ _ _ _ us hl => match us, hl with | [_, _, _, _], _ => rfl) (fun cdv f A outer s H E B =>
    (x_cons (x_asg (pv_frz (s_sub (s_ix (s_name (pv 1)) s_int (fun _ _ => rfl)) s_int)) (t_pl (s_name (pv 1)) s_int)) (x_cons (x_asg (pv_frz s_str) (t_name (pg_name (i := 4) B.nd rfl (by first | exact .inl rfl | exact .inr rfl)))) (x_cons (x_if (PW.pt (w_and (t_gt (s_ix (s_name (pv 1)) s_int (fun _ _ => rfl)) s_int) (w_and1 (t_gt (s_name (pv 3)) s_int)))) (x_cons (x_asg (pv_frz (s_lst (a_cons s_str (a_cons s_str (a_cons s_str (a_cons s_str (a_cons s_str a_nil))))))) (t_name (pg_name (i := 5) B.nd rfl (by first | exact .inl rfl | exact .inr rfl)))) (x_cons (x_if (t_gt (s_ix (s_name (pv 1)) s_int (fun _ _ => rfl)) s_int) (x_one (x_asg (pv_frz (s_add (s_name (pv 5)) (s_lst (a_cons s_str (a_cons s_str (a_cons s_str (a_cons s_str (a_cons s_str (a_cons s_str (a_cons s_str (a_cons s_str a_nil))))))))))) (t_name (pg_name (i := 5) B.nd rfl (by first | exact .inl rfl | exact .inr rfl))))) x_nil) (x_one (x_asg (pv_frz (s_call B G__law_of (by omega) (by rfl) (a_consC (s_name (pv 0)) (a_cons (s_name (pv 5)) a_nil)))) (t_name (pg_name (i := 4) B.nd rfl (by first | exact .inl rfl | exact .inr rfl))))))) x_nil) (x_cons (x_if (t_eq B (s_name (pv 4)) s_str) (x_one (x_ret (s_call B G__law_call (by omega) (by rfl) (a_consC (s_name (pv 0)) (a_cons (s_call B G__law_label (by omega) (by rfl) (a_consC (s_name (pv 1)) a_nil)) (a_cons (s_name (pv 2)) a_nil)))))) x_nil) (x_cons (x_if (t_eq B (s_name (pv 4)) s_str) (x_one (x_ret (s_tup (a_cons s_str (a_cons (s_call B G__law_next (by omega) (by rfl) (a_consC (s_name (pv 0)) (a_cons (s_add (s_name (pv 2)) s_int) a_nil))) a_nil))))) x_nil) (x_cons (x_asg (pv_frz (s_ifE (t_eq B (s_call B G__law_next (by omega) (by rfl) (a_consC (s_name (pv 0)) (a_cons s_int a_nil))) s_int) s_none (s_call B G__law_next (by omega) (by rfl) (a_consC (s_name (pv 0)) (a_cons (s_add (s_name (pv 2)) s_int) a_nil))))) (t_name (pg_name (i := 6) B.nd rfl (by first | exact .inl rfl | exact .inr rfl)))) (x_cons (x_if (t_eq B (s_name (pv 4)) s_str) (x_cons (x_asg (pv_frz (k_tuple (by rfl) m_tuple (a_cons (s_lc (own := [("_law_turn", 10)]) B.cm B.nd (i_rng1 (by rfl) m_range (a_cons (s_call B G__law_of (by omega) (by rfl) (a_consC (s_name (pv 0)) (a_cons (s_lst (a_cons s_int (a_cons s_int (a_cons s_int (a_cons s_int a_nil))))) a_nil))) a_nil)) (show BlkOk ["_law_urn_here", "_law_left", "_law_longest", "_law_deep", "_law_kind", "_law_some", "_law_number", "_law_pauses", "_law_first", "_law_second", "_law_turn"] (defScope st__law_grown) _ _ from ⟨rfl, by decide +kernel, by decide +kernel, by decide +kernel, by decide +kernel⟩) (fun s1 H1 A1 cl1 fp1 => (t_name (pg_name (i := 10) (B.blk s1 H1 _ _ fp1).nd rfl (by first | exact .inl rfl | exact .inr rfl)))) (fun s1 H1 A1 cl1 fp1 => pts_yes) (fun s1 H1 A1 cl1 fp1 => (s_call (B.blk s1 H1 _ _ fp1) G__law_next (by omega) (by rfl) (a_consC (s_name (pv 0)) (a_cons s_int a_nil)))) (by decide)) a_nil))) (t_name (pg_name (i := 7) B.nd rfl (by first | exact .inl rfl | exact .inr rfl)))) (x_one (x_ret (s_tup (a_cons s_str (a_cons (s_name (pv 7)) (a_cons (s_call B G__law_grown (by omega) (by rfl) (a_consC (s_name (pv 0)) (a_consC (s_name (pv 1)) (a_cons (s_name (pv 2)) (a_cons (s_sub (s_name (pv 3)) s_int) a_nil))))) a_nil))))))) x_nil) (x_cons (x_if (t_eq B (s_name (pv 4)) s_str) (x_one (x_ret (s_tup (a_cons s_str (a_cons (s_name (pv 6)) (a_cons (s_call B G__law_grown (by omega) (by rfl) (a_consC (s_name (pv 0)) (a_consC (s_name (pv 1)) (a_cons (s_name (pv 2)) (a_cons (s_sub (s_name (pv 3)) s_int) a_nil))))) a_nil)))))) x_nil) (x_cons (x_asg (pv_frz (s_sub (s_ix (s_name (pv 1)) s_int (fun _ _ => rfl)) s_int)) (t_pl (s_name (pv 1)) s_int)) (x_cons (x_asg (pv_frz (s_call B G__law_grown (by omega) (by rfl) (a_consC (s_name (pv 0)) (a_consC (s_name (pv 1)) (a_cons (s_name (pv 2)) (a_cons (s_sub (s_name (pv 3)) s_int) a_nil)))))) (t_name (pg_name (i := 8) B.nd rfl (by first | exact .inl rfl | exact .inr rfl)))) (x_cons (x_asg (pv_frz (s_add (s_ix (s_name (pv 1)) s_int (fun _ _ => rfl)) s_int)) (t_pl (s_name (pv 1)) s_int)) (x_cons (x_asg (pv_frz (s_call B G__law_grown (by omega) (by rfl) (a_consC (s_name (pv 0)) (a_consC (s_name (pv 1)) (a_cons (s_name (pv 2)) (a_cons (s_sub (s_name (pv 3)) s_int) a_nil)))))) (t_name (pg_name (i := 9) B.nd rfl (by first | exact .inl rfl | exact .inr rfl)))) (x_cons (x_if (t_in (s_name (pv 4)) (s_tup (a_cons s_str (a_cons s_str a_nil))) rfl) (x_one (x_ret (s_tup (a_cons (s_name (pv 4)) (a_cons (s_name (pv 8)) (a_cons (s_name (pv 9)) a_nil)))))) x_nil) (x_one (x_ret (s_tup (a_cons (s_name (pv 4)) (a_cons (s_name (pv 6)) (a_cons (s_name (pv 8)) (a_cons (s_name (pv 9)) a_nil)))))))))))))))))))))
theorem kn__law_grown (D : Df K mg "_law_grown" st__law_grown) (G__law_call : Kn P w K mg base "_law_call" 3 sem__law_call) (G__law_label : Kn P w K mg base "_law_label" 1 sem__law_label) (G__law_next : Kn P w K mg base "_law_next" 1 sem__law_next) (G__law_of : Kn P w K mg base "_law_of" 2 sem__law_of) (m_range : mg "range" = none) (m_tuple : mg "tuple" = none) : Kn P w K mg base "_law_grown" 16 (sem__law_grown 12) := kn__law_grown_all D G__law_call G__law_label G__law_next G__law_of m_range m_tuple 12
noncomputable def sb_is_policy : Sv := (sSeq (sPar [1, 2, 3] (aCons (mVc (mLst (aCons (mV (mTup (aCons (mV (mN 0)) (aCons (mV (mK (.int 1))) aNil)))) aNil))) (aCons (mVc mD0) (aCons (mV (mK (.int 0))) aNil)))) (sSeq (whGo (mCmp gNe (mN 1) (mLst aNil)) (sSeq (sAsg (gTp 2 (gCons9 (gNm 4) (gCons9 (gNm 5) gNil9))) (mV (mPop (mN 1)))) (sSeq (sAugI 3 (mK (.int 1))) (sSeq (sIf (bOr (mCmp (gI fun i j => decide (j < i)) (mN 3) (mK (.int 40))) (bOr (mCmp (gI fun i j => decide (j < i)) (mN 5) (mK (.int 20))) (bNot (mTru (mCall sem_has_form (aCons (mV (mN 4)) aNil)))))) (sRet (mK (.bool false))) sNil) (sSeq (sIf (mCmp gEq (mBin fIx (mN 4) (mK (.int 0))) (mK (.str "call"))) (sSeq (sIf (mCmp (gInD false) (mBin fIx (mN 4) (mK (.int 1))) (mN 2)) (sRet (mK (.bool false))) sNil) (sDput (mN 2) (mBin fIx (mN 4) (mK (.int 1))) (mK (.bool true)))) sNil) (sExp (mExt (mN 1) (mLc (iOf (mCall sem_inner (aCons (mV (mN 4)) aNil))) (gNm 6) ttY (mTup (aCons (mV (mN 6)) (aCons (mV (mBin fAdd (mN 5) (mK (.int 1)))) aNil))) [6]))))))) 1048576) (sRet (mK (.bool true)))))
noncomputable def sem_is_policy : Fs := bodyF 7 1 sb_is_policy
theorem kn_is_policy (D : Df K mg "is_policy" st_is_policy) (G_has_form : Kn P w K mg base "has_form" 4 sem_has_form) (G_inner : Kn P w K mg base "inner" 1 sem_inner) (c_CALL : ∃ t, mg "CALL" = some (.str "call" t)) (c_MOST_DEPTH : ∃ t, mg "MOST_DEPTH" = some (.int 20 t)) (c_MOST_PARTS : ∃ t, mg "MOST_PARTS" = some (.int 40 t)) : Kn P w K mg base "is_policy" 5 sem_is_policy :=
  kn_def (k := 4) (N := ["value", "waiting", "seen", "many", "part", "depth", "lower"]) (ps := ["value"]) (sb := sb_is_policy) D ⟨rfl, rfl, rfl, by decide +kernel, rfl, by decide +kernel, by decide +kernel⟩ (fun _ _ _ _ _ _ us hl => match us, hl with | [_], _ => rfl) (fun cdv f A outer s H E B =>
    (x_cons (x_par3 (ps_par3 B.cm B.nd rfl rfl rfl (by decide) (by decide) (by decide) rfl rfl rfl (a_consC (s_lst (a_cons (s_tup (a_cons (s_name (pv 0)) (a_cons s_int a_nil))) a_nil)) (a_consC s_d0 (a_cons s_int a_nil))) rfl)) (x_cons (x_while 1048576 B.hp (t_ne B (s_name (pv 1)) (s_lst a_nil)) (x_cons (x_asg (pv_frz (y_pop (s_name (pv 1)))) (t_tup B.cm (t_cons (t_name (pg_name (i := 4) B.nd rfl (by first | exact .inl rfl | exact .inr rfl))) (t_cons (t_name (pg_name (i := 5) B.nd rfl (by first | exact .inl rfl | exact .inr rfl))) t_nil)))) (x_cons (x_augI (i := 3) B.nd rfl (by first | exact .inl rfl | exact .inr rfl) s_int (by first | exact .inr rfl | exact .inl rfl)) (x_cons (x_if (PW.pt (w_or (t_gt (s_name (pv 3)) (s_gi (by rfl) c_MOST_PARTS)) (w_or (t_gt (s_name (pv 5)) (s_gi (by rfl) c_MOST_DEPTH)) (w_or1 (s_notT (s_test (s_call B G_has_form (by decide) (by rfl) (a_cons (s_name (pv 4)) a_nil)) (fun _ => rfl))))))) (x_one (x_ret s_bool)) x_nil) (x_cons (x_if (t_eq B (s_ix (s_name (pv 4)) s_int (fun _ _ => rfl)) (s_gs (by rfl) c_CALL)) (x_cons (x_if (t_dIn B (s_ix (s_name (pv 4)) s_int (fun _ _ => rfl)) (s_name (pv 2)) rfl) (x_one (x_ret s_bool)) x_nil) (x_one (x_dput B (s_name (pv 2)) (s_ix (s_name (pv 4)) s_int (fun _ _ => rfl)) s_bool))) x_nil) (x_one (x_expr (y_ext (s_name (pv 1)) (s_lc (own := [("lower", 6)]) B.cm B.nd (i_seq (s_call B G_inner (by decide) (by rfl) (a_cons (s_name (pv 4)) a_nil))) (show BlkOk ["value", "waiting", "seen", "many", "part", "depth", "lower"] (defScope st_is_policy) _ _ from ⟨rfl, by decide +kernel, by decide +kernel, by decide +kernel, by decide +kernel⟩) (fun s1 H1 A1 cl1 fp1 => (t_name (pg_name (i := 6) (B.blk s1 H1 _ _ fp1).nd rfl (by first | exact .inl rfl | exact .inr rfl)))) (fun s1 H1 A1 cl1 fp1 => pts_yes) (fun s1 H1 A1 cl1 fp1 => (s_tup (a_cons (s_name (pv 6)) (a_cons (s_add (s_name (pv 5)) s_int) a_nil)))) (by decide)))))))))) (x_one (x_ret s_bool)))))
noncomputable def sb_check_policy : Sv := (sIf (bNot (mTru (mCall sem_is_policy (aCons (mV (mN 0)) aNil)))) (sRaise1 "InvalidPolicy" "value" (aCons (mV (mN 0)) aNil)) sNil)
noncomputable def sem_check_policy : Fs := bodyF 1 1 sb_check_policy
theorem kn_check_policy (D : Df K mg "check_policy" st_check_policy) (G_is_policy : Kn P w K mg base "is_policy" 5 sem_is_policy) (g_InvalidPolicy : mg "InvalidPolicy" = some (.ref (He.ga K "InvalidPolicy"))) (txt_InvalidPolicy : Cfvalue.Txt K (He.ga K "InvalidPolicy") (He.ma K (He.ga K "InvalidPolicy") "__init__") "InvalidPolicy.__init__") : Kn P w K mg base "check_policy" 6 sem_check_policy :=
  kn_def (k := 5) (N := ["value"]) (ps := ["value"]) (sb := sb_check_policy) D ⟨rfl, rfl, rfl, by decide +kernel, rfl, by decide +kernel, by decide +kernel⟩ (fun _ _ _ _ _ _ us hl => match us, hl with | [_], _ => rfl) (fun cdv f A outer s H E B =>
    (x_one (x_if (s_notT (s_test (s_call B G_is_policy (by decide) (by rfl) (a_cons (s_name (pv 0)) a_nil)) (fun _ => rfl))) (x_one (x_raise_value B txt_InvalidPolicy g_InvalidPolicy (by rfl) (a_cons (s_name (pv 0)) a_nil))) x_nil)))
noncomputable def sb__law_policy : Sv := (sRet (mCall (sem__law_grown 12) (aCons (mVc (mN 0)) (aCons (mVc (mLst (aCons (mV (mN 1)) (aCons (mV (mK (.int 0))) (aCons (mV (mCall sem__law_of (aCons (mVc (mN 0)) (aCons (mV (mLst (aCons (mV (mK (.str ""))) (aCons (mV (mK (.str "c"))) (aCons (mV (mK (.str "call"))) aNil))))) aNil)))) aNil))))) (aCons (mV (mN 2)) (aCons (mV (mK (.int 8))) aNil))))))
noncomputable def sem__law_policy : Fs := bodyF 3 3 sb__law_policy
theorem kn__law_policy (D : Df K mg "_law_policy" st__law_policy) (G__law_grown : Kn P w K mg base "_law_grown" 16 (sem__law_grown 12)) (G__law_of : Kn P w K mg base "_law_of" 2 sem__law_of) : Kn P w K mg base "_law_policy" 17 sem__law_policy :=
  kn_def (k := 16) (N := ["_law_urn_here", "_law_most", "_law_longest"]) (ps := ["_law_urn_here", "_law_most", "_law_longest"]) (sb := sb__law_policy) D ⟨rfl, rfl, rfl, by decide +kernel, rfl, by decide +kernel, by decide +kernel⟩ (fun _ _ _ _ _ _ us hl => match us, hl with | [_, _, _], _ => rfl) (fun cdv f A outer s H E B =>
    (x_one (x_ret (s_call B G__law_grown (by decide) (by rfl) (a_consC (s_name (pv 0)) (a_consC (s_lst (a_cons (s_name (pv 1)) (a_cons s_int (a_cons (s_call B G__law_of (by decide) (by rfl) (a_consC (s_name (pv 0)) (a_cons (s_lst (a_cons s_str (a_cons s_str (a_cons s_str a_nil)))) a_nil))) a_nil)))) (a_cons (s_name (pv 2)) (a_cons s_int a_nil))))))))
noncomputable def sb_relabelled : Sv := (sSeq (sAsg (gNm 2) (mV (mCall (sem_with_labels 25) (aCons (mV (mN 0)) (aCons (mV (mN 1)) aNil))))) (sSeq (sExp (mCall sem_check_policy (aCons (mV (mN 2)) aNil))) (sRet (mN 2))))
noncomputable def sem_relabelled : Fs := bodyF 3 2 sb_relabelled
theorem kn_relabelled (D : Df K mg "relabelled" st_relabelled) (G_check_policy : Kn P w K mg base "check_policy" 6 sem_check_policy) (G_with_labels : Kn P w K mg base "with_labels" 27 (sem_with_labels 25)) : Kn P w K mg base "relabelled" 28 sem_relabelled :=
  kn_def (k := 27) (N := ["policy", "names", "found"]) (ps := ["policy", "names"]) (sb := sb_relabelled) D ⟨rfl, rfl, rfl, by decide +kernel, rfl, by decide +kernel, by decide +kernel⟩ (fun _ _ _ _ _ _ us hl => match us, hl with | [_, _], _ => rfl) (fun cdv f A outer s H E B =>
    (x_cons (x_asg (pv_frz (s_call B G_with_labels (by decide) (by rfl) (a_cons (s_name (pv 0)) (a_cons (s_name (pv 1)) a_nil)))) (t_name (pg_name (i := 2) B.nd rfl (by first | exact .inl rfl | exact .inr rfl)))) (x_cons (x_expr (s_call B G_check_policy (by decide) (by rfl) (a_cons (s_name (pv 2)) a_nil))) (x_one (x_ret (s_name (pv 2)))))))
noncomputable def sb__law_caught (T : Th) (m : Sto → Res Rv) : Sv := (sSeq (sAsg (gTp 2 (gCons9 (gNm 1) (gCons9 (gNm 2) gNil9))) (mV (mTup (aCons (mV (mK .none)) (aCons (mV (mK .none)) aNil))))) (sSeq (sTry 3 [("PolicyError", true), ("InvalidPolicy", true), ("NoPart", true)] (sAsg (gNm 2) (mV (mAct 0 T m))) (sAsg (gNm 1) (mV (mN 3)))) (sSeq (sIf (mIsNn false (mN 1)) (sRet (mTup (aCons (mV (mK (.str "returned"))) (aCons (mV (mN 2)) aNil)))) sNil) (sSeq (sIf (bAnd (mTru (mIsE [("PolicyError", false), ("InvalidPolicy", true), ("NoPart", false)] (mN 1))) (bNot (mTru (mIsE [("PolicyError", false), ("InvalidPolicy", false), ("NoPart", true)] (mN 1))))) (sRet (mTup (aCons (mV (mK (.str "policy"))) (aCons (mV (mErF ["InvalidPolicy", "NoPart"] "value" (mN 1))) aNil)))) sNil) (sSeq (sIf (bAnd (mTru (mIsE [("PolicyError", false), ("InvalidPolicy", false), ("NoPart", true)] (mN 1))) (bNot (mTru (mIsE [("PolicyError", false), ("InvalidPolicy", true), ("NoPart", false)] (mN 1))))) (sRet (mTup (aCons (mV (mK (.str "part"))) (aCons (mV (mErF ["InvalidPolicy", "NoPart"] "value" (mN 1))) aNil)))) sNil) (sRet (mTup (aCons (mV (mK (.str "other"))) (aCons (mV (mK .none)) aNil)))))))))
noncomputable def sem__law_caught (T : Th) (m : Sto → Res Rv) : Fs := bodyF 4 1 (sb__law_caught T m)
theorem kn__law_caught (D : Df K mg "_law_caught" st__law_caught) (m_isinstance : mg "isinstance" = none) (err_InvalidPolicy : ErrC K (He.ga K "InvalidPolicy")) (err_NoPart : ErrC K (He.ga K "NoPart")) (err_PolicyError : ErrC K (He.ga K "PolicyError")) (exm_InvalidPolicy_PolicyError : PySem.W.exmOne K (.ref (He.ga K "InvalidPolicy")) (.ref (He.ga K "PolicyError")) = some true) (exm_NoPart_PolicyError : PySem.W.exmOne K (.ref (He.ga K "NoPart")) (.ref (He.ga K "PolicyError")) = some true) (exm_PolicyError_PolicyError : PySem.W.exmOne K (.ref (He.ga K "PolicyError")) (.ref (He.ga K "PolicyError")) = some true) (g_InvalidPolicy : mg "InvalidPolicy" = some (.ref (He.ga K "InvalidPolicy"))) (g_NoPart : mg "NoPart" = some (.ref (He.ga K "NoPart"))) (g_PolicyError : mg "PolicyError" = some (.ref (He.ga K "PolicyError"))) (isN_InvalidPolicy : PySem.W.kitAny K (.type "NoneType") [.ref (He.ga K "InvalidPolicy")] = some false) (isN_NoPart : PySem.W.kitAny K (.type "NoneType") [.ref (He.ga K "NoPart")] = some false) (is_InvalidPolicy_InvalidPolicy : PySem.W.kitAny K (.ref (He.ga K "InvalidPolicy")) [.ref (He.ga K "InvalidPolicy")] = some true) (is_InvalidPolicy_NoPart : PySem.W.kitAny K (.ref (He.ga K "InvalidPolicy")) [.ref (He.ga K "NoPart")] = some false) (is_NoPart_InvalidPolicy : PySem.W.kitAny K (.ref (He.ga K "NoPart")) [.ref (He.ga K "InvalidPolicy")] = some false) (is_NoPart_NoPart : PySem.W.kitAny K (.ref (He.ga K "NoPart")) [.ref (He.ga K "NoPart")] = some true) (is_PolicyError_InvalidPolicy : PySem.W.kitAny K (.ref (He.ga K "PolicyError")) [.ref (He.ga K "InvalidPolicy")] = some false) (is_PolicyError_NoPart : PySem.W.kitAny K (.ref (He.ga K "PolicyError")) [.ref (He.ga K "NoPart")] = some false) (noat_InvalidPolicy_value : PySem.W.findIn K (.ref (He.ga K "InvalidPolicy")) "value" = some none) (noat_NoPart_value : PySem.W.findIn K (.ref (He.ga K "NoPart")) "value" = some none) : KnL P w K mg base "_law_caught" 29 sem__law_caught :=
  kn_defL (k := 29) (N := ["_law_ask", "_law_caught_here", "_law_found", "error"]) (a := "_law_ask") (sb := sb__law_caught) D ⟨rfl, rfl, rfl, by decide +kernel, rfl, by decide +kernel, by decide +kernel⟩ (fun _ _ _ _ _ _ us hl => match us, hl with | [_], _ => rfl) (fun T m cdv f A outer s H E act B =>
    (x_cons (x_asg (pv_frz (s_tup (a_cons s_none (a_cons s_none a_nil)))) (t_tup B.cm (t_cons (t_name (pg_name (i := 1) B.nd rfl (by first | exact .inl rfl | exact .inr rfl))) (t_cons (t_name (pg_name (i := 2) B.nd rfl (by first | exact .inl rfl | exact .inr rfl))) t_nil)))) (x_cons (x_tryAs (i := 3) (cat := [("PolicyError", true), ("InvalidPolicy", true), ("NoPart", true)]) B rfl rfl rfl rfl (by rfl) (by decide) g_PolicyError (cat_cons exm_PolicyError_PolicyError (cat_cons exm_InvalidPolicy_PolicyError (cat_cons exm_NoPart_PolicyError cat_nil))) (fun W1 pn1 xe1 Bt1 => (x_one (x_asg (pv_frz (act _ _ _ _ _ _ _ _ 0 _ _ _ Bt1 rfl (by first | exact .inl rfl | exact .inr (.inl rfl)) (by decide) (by decide))) (t_name (pg_name (i := 2) Bt1.nd rfl (by first | exact .inl rfl | exact .inr rfl)))))) (fun _ _ => (x_one (x_asg (pv_frz (s_name (pv 3))) (t_name (pg_name (i := 1) B.nd rfl (by first | exact .inl rfl | exact .inr rfl))))))) (x_cons (x_if (t_isNn (s_name (pv 1))) (x_one (x_ret (s_tup (a_cons s_str (a_cons (s_name (pv 2)) a_nil))))) x_nil) (x_cons (x_if (PW.pt (w_and (s_test (s_isE (cat := [("PolicyError", false), ("InvalidPolicy", true), ("NoPart", false)]) B.hK (by rfl) m_isinstance (s_name (pv 1)) (by rfl) g_InvalidPolicy (cat_cons ⟨err_PolicyError, is_PolicyError_InvalidPolicy⟩ (cat_cons ⟨err_InvalidPolicy, is_InvalidPolicy_InvalidPolicy⟩ (cat_cons ⟨err_NoPart, is_NoPart_InvalidPolicy⟩ cat_nil))) isN_InvalidPolicy) (fun _ => rfl)) (w_and1 (s_notT (s_test (s_isE (cat := [("PolicyError", false), ("InvalidPolicy", false), ("NoPart", true)]) B.hK (by rfl) m_isinstance (s_name (pv 1)) (by rfl) g_NoPart (cat_cons ⟨err_PolicyError, is_PolicyError_NoPart⟩ (cat_cons ⟨err_InvalidPolicy, is_InvalidPolicy_NoPart⟩ (cat_cons ⟨err_NoPart, is_NoPart_NoPart⟩ cat_nil))) isN_NoPart) (fun _ => rfl)))))) (x_one (x_ret (s_tup (a_cons s_str (a_cons (s_erF B.hK (s_name (pv 1)) (zs_cons ⟨err_InvalidPolicy, noat_InvalidPolicy_value⟩ (zs_cons ⟨err_NoPart, noat_NoPart_value⟩ zs_nil))) a_nil))))) x_nil) (x_cons (x_if (PW.pt (w_and (s_test (s_isE (cat := [("PolicyError", false), ("InvalidPolicy", false), ("NoPart", true)]) B.hK (by rfl) m_isinstance (s_name (pv 1)) (by rfl) g_NoPart (cat_cons ⟨err_PolicyError, is_PolicyError_NoPart⟩ (cat_cons ⟨err_InvalidPolicy, is_InvalidPolicy_NoPart⟩ (cat_cons ⟨err_NoPart, is_NoPart_NoPart⟩ cat_nil))) isN_NoPart) (fun _ => rfl)) (w_and1 (s_notT (s_test (s_isE (cat := [("PolicyError", false), ("InvalidPolicy", true), ("NoPart", false)]) B.hK (by rfl) m_isinstance (s_name (pv 1)) (by rfl) g_InvalidPolicy (cat_cons ⟨err_PolicyError, is_PolicyError_InvalidPolicy⟩ (cat_cons ⟨err_InvalidPolicy, is_InvalidPolicy_InvalidPolicy⟩ (cat_cons ⟨err_NoPart, is_NoPart_InvalidPolicy⟩ cat_nil))) isN_InvalidPolicy) (fun _ => rfl)))))) (x_one (x_ret (s_tup (a_cons s_str (a_cons (s_erF B.hK (s_name (pv 1)) (zs_cons ⟨err_InvalidPolicy, noat_InvalidPolicy_value⟩ (zs_cons ⟨err_NoPart, noat_NoPart_value⟩ zs_nil))) a_nil))))) x_nil) (x_one (x_ret (s_tup (a_cons s_str (a_cons s_none a_nil)))))))))))
noncomputable def sb_law : Sv := (sSeq (sFor (iRg1 (aCons (mV (mCal (gII (fun i j => if j > i then j else i)) (aCons (mV (mK (.int 1))) (aCons (mV (mCal (gII (fun i j => if j < i then j else i)) (aCons (mV (mK (.int 3))) (aCons (mV (mCal (gLen) (aCons (mV (mN 0)) aNil))) aNil)))) aNil)))) aNil)) (gNm 1) (sSeq (sAsg (gNm 2) (mVc (mCall sem__law_urn (aCons (mV (mN 0)) (aCons (mV (mN 1)) aNil))))) (sFor (iRg1 (aCons (mV (mK (.int 2))) aNil)) (gNm 3) (sSeq (sAsg (gNm 4) (mV (eIf (mCmp gEq (mN 3) (mK (.int 0))) (mCall sem__law_policy (aCons (mVc (mN 2)) (aCons (mV (mK (.int 14))) (aCons (mV (mK (.int 9))) aNil)))) (mCall sem__law_many_calls aNil)))) (sSeq (sAsg (gNm 5) (mV (mCal (g1 fSortedD) (aCons (mV (mCall (sem__law_calls 25) (aCons (mV (mN 4)) aNil))) aNil)))) (sSeq (sAsg (gNm 6) (mVc (mCal (g1 fDictP) (aCons (mV (mLZ (aCons (mV (mN 5)) (aCons (mV (mCall sem__law_fresh (aCons (mVc (mN 2)) (aCons (mV (mCal (gLen) (aCons (mV (mN 5)) aNil))) aNil)))) aNil)))) aNil)))) (sSeq (sAsg (gNm 7) (mV (mCal (g1 fDictP) (aCons (mV (mLZ (aCons (mV (mN 5)) (aCons (mV (mTurn (mN 5))) aNil)))) aNil)))) (sSeq (sAsg (gNm 8) (mV (mRL (aCons (mV (mN 4)) (aCons (mVc (mN 6)) aNil))))) (sSeq (sAsg (gNm 9) (mV (mCall sem_relabelled (aCons (mV (mN 4)) (aCons (mV (mN 6)) aNil))))) (sSeq (sIf (bOr (mCmp gNe (mCal (g1 fRepr) (aCons (mV (mN 9)) aNil)) (mCal (g1 fRepr) (aCons (mV (mCall (sem__law_called 12) (aCons (mV (mN 4)) (aCons (mV (mN 6)) aNil)))) aNil))) (mCmp gNe (mRL (aCons (mV (mN 4)) (aCons (mVc (mN 6)) aNil))) (mN 8))) (sRet (mK (.bool false))) sNil) (sSeq (sAsg (gNm 10) (mV (mCal (g1 fDictP) (aCons (mV (mLc (iOf (mN 5)) (gNm 12) ttY (mTup (aCons (mV (mBin fDix (mN 6) (mN 12))) (aCons (mV (mN 12)) aNil))) [12])) aNil)))) (sSeq (sIf (bOr (mCmp gNe (mCall sem_relabelled (aCons (mV (mN 9)) (aCons (mV (mN 10)) aNil))) (mN 4)) (mCmp gNe (mCall sem_relabelled (aCons (mV (mN 4)) (aCons (mV (mN 7)) aNil))) (mCall (sem__law_called 12) (aCons (mV (mN 4)) (aCons (mV (mN 7)) aNil))))) (sRet (mK (.bool false))) sNil) (sIf (mCmp (gI fun i j => decide (j < i)) (mCal (gLen) (aCons (mV (mN 5)) aNil)) (mK (.int 1))) (sSeq (sDput (mN 6) (mBin fIx (mN 5) (mK (.int 0))) (mBin fDix (mN 6) (mBin fIx (mN 5) (mNeg (mK (.int 1)))))) (sSeq (sAsg (gNm 11) (mV (mTup (aCons (mV (mK (.str "policy"))) (aCons (mV (mCall (sem__law_called 12) (aCons (mV (mN 4)) (aCons (mV (mN 6)) aNil)))) aNil))))) (sIf (mCmp gNe (mCal (g1 fRepr) (aCons (mV (mLamZ 0 6 "law" "law.<locals>.<lambda>" sem__law_caught (mCall sem_relabelled (aCons (mV (mN 4)) (aCons (mV (mN 6)) aNil))))) aNil)) (mCal (g1 fRepr) (aCons (mV (mN 11)) aNil))) (sRet (mK (.bool false))) sNil))) sNil))))))))))))) (sRet (mK (.bool true))))
noncomputable def sem_law : Fs := bodyF 13 1 sb_law
theorem fn_law {f : Addr} {fd : FuncData} (FL : FunD K "law" "law" (defArgs st_law) (defBody st_law) (defScope st_law) [] [] f fd) (hfl : f = He.ga K "law") (TB_law : LamX.TabB base mg (He.cT K ("law", none)).1 (He.cT K ("law", none)).2) (G__law_called : Kn P w K mg base "_law_called" 14 (sem__law_called 12)) (G__law_calls : Kn P w K mg base "_law_calls" 27 (sem__law_calls 25)) (G__law_caught : KnL P w K mg base "_law_caught" 29 sem__law_caught) (G__law_fresh : Kn P w K mg base "_law_fresh" 2 sem__law_fresh) (G__law_many_calls : Kn P w K mg base "_law_many_calls" 1 sem__law_many_calls) (G__law_policy : Kn P w K mg base "_law_policy" 17 sem__law_policy) (G__law_urn : Kn P w K mg base "_law_urn" 1 sem__law_urn) (G_relabelled : Kn P w K mg base "relabelled" 28 sem_relabelled) (m_dict : mg "dict" = none) (m_len : mg "len" = none) (m_list : mg "list" = none) (m_max : mg "max" = none) (m_min : mg "min" = none) (m_range : mg "range" = none) (m_repr : mg "repr" = none) (m_sorted : mg "sorted" = none) (m_zip : mg "zip" = none) (g_law : mg "law" = some (.ref (He.ga K "law"))) (sysK : SysK K) : FnC P w K mg base 31 f fd ["_law_script"] sem_law :=
  fn_defT (k := 30) (N := ["_law_script", "_law_k", "_law_urn_here", "_law_turn", "_law_plan", "_law_own", "_law_book", "_law_turned", "_law_kept", "_law_told", "_law_back", "_law_due", "_law_name"]) (ps := ["_law_script"]) (sb := sb_law) FL hfl ⟨rfl, rfl, rfl, by decide +kernel, rfl, by decide +kernel, by decide +kernel⟩ (fun cdv f A outer s H E hcd B =>
    (x_cons (x_for B.hp B.cm (i_rng1 (by rfl) m_range (a_cons (k_max B (by rfl) m_max (a_cons s_int (a_cons (k_min B (by rfl) m_min (a_cons s_int (a_cons (k_len B (by rfl) m_len (a_cons (s_name (pv 0)) a_nil)) a_nil))) a_nil))) a_nil)) (t_name (pg_name (i := 1) B.nd rfl (by first | exact .inl rfl | exact .inr rfl))) (x_cons (x_asg (pv_cell (s_call B G__law_urn (by decide) (by rfl) (a_cons (s_name (pv 0)) (a_cons (s_name (pv 1)) a_nil)))) (t_name (pg_name (i := 2) B.nd rfl (by first | exact .inl rfl | exact .inr rfl)))) (x_one (x_for B.hp B.cm (i_rng1 (by rfl) m_range (a_cons s_int a_nil)) (t_name (pg_name (i := 3) B.nd rfl (by first | exact .inl rfl | exact .inr rfl))) (x_cons (x_asg (pv_frz (s_ifE (t_eq B (s_name (pv 3)) s_int) (s_call B G__law_policy (by decide) (by rfl) (a_consC (s_name (pv 2)) (a_cons s_int (a_cons s_int a_nil)))) (s_call0 B G__law_many_calls (by decide) (by rfl)))) (t_name (pg_name (i := 4) B.nd rfl (by first | exact .inl rfl | exact .inr rfl)))) (x_cons (x_asg (pv_frz (k_sortedD B (by rfl) m_sorted (a_cons (s_call B G__law_calls (by decide) (by rfl) (a_cons (s_name (pv 4)) a_nil)) a_nil))) (t_name (pg_name (i := 5) B.nd rfl (by first | exact .inl rfl | exact .inr rfl)))) (x_cons (x_asg (pv_cell (k_dictP B (by rfl) m_dict (a_cons (s_lz (by rfl) m_list (by rfl) m_zip (a_cons (s_name (pv 5)) (a_cons (s_call B G__law_fresh (by decide) (by rfl) (a_consC (s_name (pv 2)) (a_cons (k_len B (by rfl) m_len (a_cons (s_name (pv 5)) a_nil)) a_nil))) a_nil)) B.cm) a_nil))) (t_name (pg_name (i := 6) B.nd rfl (by first | exact .inl rfl | exact .inr rfl)))) (x_cons (x_asg (pv_frz (k_dictP B (by rfl) m_dict (a_cons (s_lz (by rfl) m_list (by rfl) m_zip (a_cons (s_name (pv 5)) (a_cons (s_turn B.hK (s_name (pv 5))) a_nil)) B.cm) a_nil))) (t_name (pg_name (i := 7) B.nd rfl (by first | exact .inl rfl | exact .inr rfl)))) (x_cons (x_asg (pv_frz (s_reprL B sysK (by rfl) m_repr (a_cons (s_name (pv 4)) (a_consC (s_name (pv 6)) a_nil)))) (t_name (pg_name (i := 8) B.nd rfl (by first | exact .inl rfl | exact .inr rfl)))) (x_cons (x_asg (pv_frz (s_call B G_relabelled (by decide) (by rfl) (a_cons (s_name (pv 4)) (a_cons (s_name (pv 6)) a_nil)))) (t_name (pg_name (i := 9) B.nd rfl (by first | exact .inl rfl | exact .inr rfl)))) (x_cons (x_if (PW.pt (w_or (t_ne B (k_repr B sysK (by rfl) m_repr (a_cons (s_name (pv 9)) a_nil)) (k_repr B sysK (by rfl) m_repr (a_cons (s_call B G__law_called (by decide) (by rfl) (a_cons (s_name (pv 4)) (a_cons (s_name (pv 6)) a_nil))) a_nil))) (w_or1 (t_ne B (s_reprL B sysK (by rfl) m_repr (a_cons (s_name (pv 4)) (a_consC (s_name (pv 6)) a_nil))) (s_name (pv 8)))))) (x_one (x_ret s_bool)) x_nil) (x_cons (x_asg (pv_frz (k_dictP B (by rfl) m_dict (a_cons (s_lc (own := [("_law_name", 12)]) B.cm B.nd (i_seq (s_name (pv 5))) (show BlkOk ["_law_script", "_law_k", "_law_urn_here", "_law_turn", "_law_plan", "_law_own", "_law_book", "_law_turned", "_law_kept", "_law_told", "_law_back", "_law_due", "_law_name"] (defScope st_law) _ _ from ⟨rfl, by decide +kernel, by decide +kernel, by decide +kernel, by decide +kernel⟩) (fun s1 H1 A1 cl1 fp1 => (t_name (pg_name (i := 12) (B.blk s1 H1 _ _ fp1).nd rfl (by first | exact .inl rfl | exact .inr rfl)))) (fun s1 H1 A1 cl1 fp1 => pts_yes) (fun s1 H1 A1 cl1 fp1 => (s_tup (a_cons (s_dix (B.blk s1 H1 _ _ fp1) (s_name (pv 6)) (s_name (pv 12)) (fun _ _ => rfl)) (a_cons (s_name (pv 12)) a_nil)))) (by decide)) a_nil))) (t_name (pg_name (i := 10) B.nd rfl (by first | exact .inl rfl | exact .inr rfl)))) (x_cons (x_if (PW.pt (w_or (t_ne B (s_call B G_relabelled (by decide) (by rfl) (a_cons (s_name (pv 9)) (a_cons (s_name (pv 10)) a_nil))) (s_name (pv 4))) (w_or1 (t_ne B (s_call B G_relabelled (by decide) (by rfl) (a_cons (s_name (pv 4)) (a_cons (s_name (pv 7)) a_nil))) (s_call B G__law_called (by decide) (by rfl) (a_cons (s_name (pv 4)) (a_cons (s_name (pv 7)) a_nil))))))) (x_one (x_ret s_bool)) x_nil) (x_one (x_if (t_gt (k_len B (by rfl) m_len (a_cons (s_name (pv 5)) a_nil)) s_int) (x_cons (x_dput B (s_name (pv 6)) (s_ix (s_name (pv 5)) s_int (fun _ _ => rfl)) (s_dix B (s_name (pv 6)) (s_ix (s_name (pv 5)) (s_neg s_int) (fun _ _ => rfl)) (fun _ _ => rfl))) (x_cons (x_asg (pv_frz (s_tup (a_cons s_str (a_cons (s_call B G__law_called (by decide) (by rfl) (a_cons (s_name (pv 4)) (a_cons (s_name (pv 6)) a_nil))) a_nil)))) (t_name (pg_name (i := 11) B.nd rfl (by first | exact .inl rfl | exact .inr rfl)))) (x_one (x_if (t_ne B (k_repr B sysK (by rfl) m_repr (a_cons (s_lamZ (z := 6) (n := 0) (j := 28) (x := "law") B G__law_caught (by decide) (by rfl) TB_law hcd (by first | rfl | decide +kernel) (LamX.lamS_by (show LamX.lamSB (defScope st_law) _ = true from by decide +kernel)) rfl (fun _ _ _ _ _ => rfl) (fun A1 o1 s1 H1 E1 f1 c1 Bl1 => (s_call Bl1 G_relabelled (by decide) (by rfl) (a_cons (s_name (pv 4)) (a_cons (s_name (pv 6)) a_nil))))) a_nil)) (k_repr B sysK (by rfl) m_repr (a_cons (s_name (pv 11)) a_nil))) (x_one (x_ret s_bool)) x_nil)))) x_nil))))))))))))))) (x_one (x_ret s_bool))))
end
def d_is_label : He.DefD := ⟨("is_label", none), "is_label", "is_label", defArgs st_is_label, defBody st_is_label, defScope st_is_label, [], []⟩
def d_is_number : He.DefD := ⟨("is_number", none), "is_number", "is_number", defArgs st_is_number, defBody st_is_number, defScope st_is_number, [], []⟩
def d_is_span : He.DefD := ⟨("is_span", none), "is_span", "is_span", defArgs st_is_span, defBody st_is_span, defScope st_is_span, [], []⟩
def d_is_call : He.DefD := ⟨("is_call", none), "is_call", "is_call", defArgs st_is_call, defBody st_is_call, defScope st_is_call, [], []⟩
def d_has_number : He.DefD := ⟨("has_number", none), "has_number", "has_number", defArgs st_has_number, defBody st_has_number, defScope st_has_number, [], []⟩
def d_has_form : He.DefD := ⟨("has_form", none), "has_form", "has_form", defArgs st_has_form, defBody st_has_form, defScope st_has_form, [], []⟩
def d_inner : He.DefD := ⟨("inner", none), "inner", "inner", defArgs st_inner, defBody st_inner, defScope st_inner, [], []⟩
def d_is_policy : He.DefD := ⟨("is_policy", none), "is_policy", "is_policy", defArgs st_is_policy, defBody st_is_policy, defScope st_is_policy, [], []⟩
def d_with_inner : He.DefD := ⟨("with_inner", none), "with_inner", "with_inner", defArgs st_with_inner, defBody st_with_inner, defScope st_with_inner, [], []⟩
def d_check_policy : He.DefD := ⟨("check_policy", none), "check_policy", "check_policy", defArgs st_check_policy, defBody st_check_policy, defScope st_check_policy, [], []⟩
def d_with_labels : He.DefD := ⟨("with_labels", none), "with_labels", "with_labels", defArgs st_with_labels, defBody st_with_labels, defScope st_with_labels, [], []⟩
def d_relabelled : He.DefD := ⟨("relabelled", none), "relabelled", "relabelled", defArgs st_relabelled, defBody st_relabelled, defScope st_relabelled, [], []⟩
def d__law_urn : He.DefD := ⟨("_law_urn", none), "_law_urn", "_law_urn", defArgs st__law_urn, defBody st__law_urn, defScope st__law_urn, [], []⟩
def d__law_next : He.DefD := ⟨("_law_next", none), "_law_next", "_law_next", defArgs st__law_next, defBody st__law_next, defScope st__law_next, [], []⟩
def d__law_of : He.DefD := ⟨("_law_of", none), "_law_of", "_law_of", defArgs st__law_of, defBody st__law_of, defScope st__law_of, [], []⟩
def d__law_span : He.DefD := ⟨("_law_span", none), "_law_span", "_law_span", defArgs st__law_span, defBody st__law_span, defScope st__law_span, [], []⟩
def d__law_call : He.DefD := ⟨("_law_call", none), "_law_call", "_law_call", defArgs st__law_call, defBody st__law_call, defScope st__law_call, [], []⟩
def d__law_label : He.DefD := ⟨("_law_label", none), "_law_label", "_law_label", defArgs st__law_label, defBody st__law_label, defScope st__law_label, [], []⟩
def d__law_policy : He.DefD := ⟨("_law_policy", none), "_law_policy", "_law_policy", defArgs st__law_policy, defBody st__law_policy, defScope st__law_policy, [], []⟩
def d__law_grown : He.DefD := ⟨("_law_grown", none), "_law_grown", "_law_grown", defArgs st__law_grown, defBody st__law_grown, defScope st__law_grown, [], []⟩
def d__law_inner : He.DefD := ⟨("_law_inner", none), "_law_inner", "_law_inner", defArgs st__law_inner, defBody st__law_inner, defScope st__law_inner, [], []⟩
def d__law_calls : He.DefD := ⟨("_law_calls", none), "_law_calls", "_law_calls", defArgs st__law_calls, defBody st__law_calls, defScope st__law_calls, [], []⟩
def d__law_caught : He.DefD := ⟨("_law_caught", none), "_law_caught", "_law_caught", defArgs st__law_caught, defBody st__law_caught, defScope st__law_caught, [], []⟩
def d__law_called : He.DefD := ⟨("_law_called", none), "_law_called", "_law_called", defArgs st__law_called, defBody st__law_called, defScope st__law_called, [], []⟩
def d__law_fresh : He.DefD := ⟨("_law_fresh", none), "_law_fresh", "_law_fresh", defArgs st__law_fresh, defBody st__law_fresh, defScope st__law_fresh, [], []⟩
def d__law_many_calls : He.DefD := ⟨("_law_many_calls", none), "_law_many_calls", "_law_many_calls", defArgs st__law_many_calls, defBody st__law_many_calls, defScope st__law_many_calls, [], []⟩
def d_law : He.DefD := ⟨("law", none), "law", "law", defArgs st_law, defBody st_law, defScope st_law, [], []⟩
abbrev sti_InvalidPolicy : Stmt := match top 2 with
  | .ClassDef _ _ _ b _ _ _ _ _ _ _ => b.getD 0 (.Pass ⟨0, 0, 0, 0⟩)
  | _ => .Pass ⟨0, 0, 0, 0⟩
def di_InvalidPolicy : He.DefD := ⟨("InvalidPolicy", some "__init__"), "__init__", "InvalidPolicy.__init__", defArgs sti_InvalidPolicy, defBody sti_InvalidPolicy, defScope sti_InvalidPolicy, [], []⟩
def fn : List He.DefD := [d_is_label, d_is_number, d_is_span, d_is_call, d_has_number, d_has_form, d_inner, d_is_policy, d_with_inner, d_check_policy, d_with_labels, d_relabelled, d__law_urn, d__law_next, d__law_of, d__law_span, d__law_call, d__law_label, d__law_policy, d__law_grown, d__law_inner, d__law_calls, d__law_caught, d__law_called, d__law_fresh, d__law_many_calls, d_law, di_InvalidPolicy]
def fa : List Fb := [(fun K => (He.Fa.glo "is_label").ok K),
  (fun K => (He.Fa.glo "is_number").ok K),
  (fun K => (He.Fa.glo "is_span").ok K),
  (fun K => (He.Fa.glo "is_call").ok K),
  (fun K => (He.Fa.glo "has_number").ok K),
  (fun K => (He.Fa.glo "has_form").ok K),
  (fun K => (He.Fa.glo "inner").ok K),
  (fun K => (He.Fa.glo "is_policy").ok K),
  (fun K => (He.Fa.glo "with_inner").ok K),
  (fun K => (He.Fa.glo "check_policy").ok K),
  (fun K => (He.Fa.glo "with_labels").ok K),
  (fun K => (He.Fa.glo "relabelled").ok K),
  (fun K => (He.Fa.glo "_law_urn").ok K),
  (fun K => (He.Fa.glo "_law_next").ok K),
  (fun K => (He.Fa.glo "_law_of").ok K),
  (fun K => (He.Fa.glo "_law_span").ok K),
  (fun K => (He.Fa.glo "_law_call").ok K),
  (fun K => (He.Fa.glo "_law_label").ok K),
  (fun K => (He.Fa.glo "_law_policy").ok K),
  (fun K => (He.Fa.glo "_law_grown").ok K),
  (fun K => (He.Fa.glo "_law_inner").ok K),
  (fun K => (He.Fa.glo "_law_calls").ok K),
  (fun K => (He.Fa.glo "_law_caught").ok K),
  (fun K => (He.Fa.glo "_law_called").ok K),
  (fun K => (He.Fa.glo "_law_fresh").ok K),
  (fun K => (He.Fa.glo "_law_many_calls").ok K),
  (fun K => (He.Fa.glo "law").ok K),
  (fun K => (He.Fa.free "abs").ok K),
  (fun K => (He.Fa.free "all").ok K),
  (fun K => (He.Fa.free "bool").ok K),
  (fun K => (He.Fa.free "dict").ok K),
  (fun K => (He.Fa.free "int").ok K),
  (fun K => (He.Fa.free "isinstance").ok K),
  (fun K => (He.Fa.free "len").ok K),
  (fun K => (He.Fa.free "list").ok K),
  (fun K => (He.Fa.free "max").ok K),
  (fun K => (He.Fa.free "min").ok K),
  (fun K => (He.Fa.free "range").ok K),
  (fun K => (He.Fa.free "repr").ok K),
  (fun K => (He.Fa.free "sorted").ok K),
  (fun K => (He.Fa.free "str").ok K),
  (fun K => (He.Fa.free "tuple").ok K),
  (fun K => (He.Fa.free "zip").ok K),
  (fun K => (He.Fa.str "BOTH" "both").ok K),
  (fun K => (He.Fa.str "CALL" "call").ok K),
  (fun K => (He.Fa.int "GREATEST_NUMBER" 1000000000).ok K),
  (fun K => (He.Fa.int "LONGEST_LABEL" 8).ok K),
  (fun K => (He.Fa.int "MOST_DEPTH" 20).ok K),
  (fun K => (He.Fa.int "MOST_PARTS" 40).ok K),
  (fun K => (He.Fa.int "MOST_PAUSES" 5).ok K),
  (fun K => (He.Fa.str "RETRY" "retry").ok K),
  (fun K => (He.Fa.str "SIGNS" "abcdefghijklmnopqrstuvwxyz0123456789").ok K),
  (fun K => (He.Fa.int "SPAN_PARTS" 2).ok K),
  (fun K => (He.Fa.str "THEN" "then").ok K),
  (fun K => (He.Fa.str "WAIT" "wait").ok K),
  (errB "InvalidPolicy"),
  (errB "NoPart"),
  (errB "PolicyError"),
  (exmB "InvalidPolicy" "PolicyError" true),
  (exmB "NoPart" "PolicyError" true),
  (exmB "PolicyError" "PolicyError" true),
  (fun K => (He.Fa.glo "InvalidPolicy").ok K),
  (fun K => (He.Fa.glo "NoPart").ok K),
  (fun K => (He.Fa.glo "PolicyError").ok K),
  (fun K => (He.Fa.glo "law").ok K),
  (isNB ["InvalidPolicy"]),
  (isNB ["NoPart"]),
  (isB "InvalidPolicy" ["InvalidPolicy"] true),
  (isB "InvalidPolicy" ["NoPart"] false),
  (isB "NoPart" ["InvalidPolicy"] false),
  (isB "NoPart" ["NoPart"] true),
  (isB "PolicyError" ["InvalidPolicy"] false),
  (isB "PolicyError" ["NoPart"] false),
  (fun K => (He.Fa.noat "InvalidPolicy" "value").ok K),
  (fun K => (He.Fa.noat "NoPart" "value").ok K),
  sysB,
  (tabB "SIZES" [("call", 5), ("wait", 2), ("then", 3), ("fallback", 4), ("retry", 3), ("timeout", 3), ("race", 4), ("hedge", 4), ("both", 3)]),
  (tupB "NUMBERED" ["wait", "retry", "fallback", "timeout", "race", "hedge"]),
  (Cfvalue.txtB "InvalidPolicy")]
abbrev R : PySem.W.OpenRow := PySem.W.OpenLaw.row PySem.Challenge.rw_callpolicy_k11_policies_relabelled
def ts : List He.Tab := [(fun K => He.ga K "SIZES", ["call", "wait", "then", "fallback", "retry", "timeout", "race", "hedge", "both"])]
def tb : List (Str × Str) := [("law", "law.<locals>.<lambda>")]
abbrev hk : PySem.W.Hook := hookL 4 fa fn ts tb
def ob (s : PySem.W.SharedT) : AlL := obsL 4 fa fn ts tb (HandSHeadRun.getT s)
theorem ob_eq (s : PySem.W.SharedT) : ob s = hk.obs s.abs := obsL_eq (HandSHeadRun.getT_eq s)
def loose : List Str := "PolicyError" :: "InvalidPolicy" :: "NoPart" :: "CALL" :: "WAIT" :: "THEN" :: "FALLBACK" :: "RETRY" :: "TIMEOUT" :: "RACE" :: "HEDGE" :: "BOTH" :: "SIZES" :: "NUMBERED" :: "SIGNS" :: "LONGEST_LABEL" :: "GREATEST_NUMBER" :: "MOST_PAUSES" :: "MOST_PARTS" :: "MOST_DEPTH" :: "SPAN_PARTS" :: "is_label" :: "is_number" :: "is_span" :: "is_call" :: "has_number" :: "has_form" :: "inner" :: "is_policy" :: "with_inner" :: "check_policy" :: "with_labels" :: "relabelled" :: "_law_urn" :: "_law_next" :: "_law_of" :: "_law_span" :: "_law_call" :: "_law_label" :: "_law_policy" :: "_law_grown" :: "_law_inner" :: "_law_calls" :: "_law_caught" :: "_law_called" :: "_law_fresh" :: "_law_many_calls" :: ([] : List Str)
theorem run_f (w : World) : HandSHeadRun.RunEq R (PySem.W.view R.prog [51]) hk ob 4000 loose (setF w "special-get-raises" false) := by
  intro os
  kernel_rfl
theorem run_t (w : World) : HandSHeadRun.RunEq R (PySem.W.view R.prog [51]) hk ob 4000 loose (setF w "special-get-raises" true) := by
  intro os
  kernel_rfl
theorem run (w : World) : HandSHeadRun.RunEq R (PySem.W.view R.prog [51]) hk ob 4000 loose w := by
  intro os
  rw [← setF_eq w "special-get-raises"]
  generalize w.params.followText "special-get-raises" = b
  cases b
  · exact run_f w os
  · exact run_t w os
theorem facts {P : Program} {w : World} {K : PySem.W.Frag} {h : Heap} {mg : Str → Option Value} {f : Addr} (X : K.In h) (G : h.Ns mainGlobals mg) (hfa : mg ("law" : Str) = some (.ref f)) (cT : SaysL fa fn ts tb w h K) :
    ∃ fd : FuncData, (∀ (s : Shared) (v : Value), BindsTo s fd ⟨[v], []⟩ [("_law_script", v)]) ∧ ∀ base : Heap, K.In base → base.Ns mainGlobals mg → TabsOk K base mg tb → FnC P w K mg base 31 f fd ["_law_script"] sem_law := by
  have c := cT.t.x
  have m_abs : mg "abs" = none := He.free_ok X G (c.fact 27 (f := fun K => (He.Fa.free "abs").ok K) rfl)
  have m_all : mg "all" = none := He.free_ok X G (c.fact 28 (f := fun K => (He.Fa.free "all").ok K) rfl)
  have m_bool : mg "bool" = none := He.free_ok X G (c.fact 29 (f := fun K => (He.Fa.free "bool").ok K) rfl)
  have m_dict : mg "dict" = none := He.free_ok X G (c.fact 30 (f := fun K => (He.Fa.free "dict").ok K) rfl)
  have m_int : mg "int" = none := He.free_ok X G (c.fact 31 (f := fun K => (He.Fa.free "int").ok K) rfl)
  have m_isinstance : mg "isinstance" = none := He.free_ok X G (c.fact 32 (f := fun K => (He.Fa.free "isinstance").ok K) rfl)
  have m_len : mg "len" = none := He.free_ok X G (c.fact 33 (f := fun K => (He.Fa.free "len").ok K) rfl)
  have m_list : mg "list" = none := He.free_ok X G (c.fact 34 (f := fun K => (He.Fa.free "list").ok K) rfl)
  have m_max : mg "max" = none := He.free_ok X G (c.fact 35 (f := fun K => (He.Fa.free "max").ok K) rfl)
  have m_min : mg "min" = none := He.free_ok X G (c.fact 36 (f := fun K => (He.Fa.free "min").ok K) rfl)
  have m_range : mg "range" = none := He.free_ok X G (c.fact 37 (f := fun K => (He.Fa.free "range").ok K) rfl)
  have m_repr : mg "repr" = none := He.free_ok X G (c.fact 38 (f := fun K => (He.Fa.free "repr").ok K) rfl)
  have m_sorted : mg "sorted" = none := He.free_ok X G (c.fact 39 (f := fun K => (He.Fa.free "sorted").ok K) rfl)
  have m_str : mg "str" = none := He.free_ok X G (c.fact 40 (f := fun K => (He.Fa.free "str").ok K) rfl)
  have m_tuple : mg "tuple" = none := He.free_ok X G (c.fact 41 (f := fun K => (He.Fa.free "tuple").ok K) rfl)
  have m_zip : mg "zip" = none := He.free_ok X G (c.fact 42 (f := fun K => (He.Fa.free "zip").ok K) rfl)
  have c_BOTH := He.str_ok X G (c.fact 43 (f := fun K => (He.Fa.str "BOTH" "both").ok K) rfl)
  have c_CALL := He.str_ok X G (c.fact 44 (f := fun K => (He.Fa.str "CALL" "call").ok K) rfl)
  have c_GREATEST_NUMBER := He.int_ok X G (c.fact 45 (f := fun K => (He.Fa.int "GREATEST_NUMBER" 1000000000).ok K) rfl)
  have c_LONGEST_LABEL := He.int_ok X G (c.fact 46 (f := fun K => (He.Fa.int "LONGEST_LABEL" 8).ok K) rfl)
  have c_MOST_DEPTH := He.int_ok X G (c.fact 47 (f := fun K => (He.Fa.int "MOST_DEPTH" 20).ok K) rfl)
  have c_MOST_PARTS := He.int_ok X G (c.fact 48 (f := fun K => (He.Fa.int "MOST_PARTS" 40).ok K) rfl)
  have c_MOST_PAUSES := He.int_ok X G (c.fact 49 (f := fun K => (He.Fa.int "MOST_PAUSES" 5).ok K) rfl)
  have c_RETRY := He.str_ok X G (c.fact 50 (f := fun K => (He.Fa.str "RETRY" "retry").ok K) rfl)
  have c_SIGNS := He.str_ok X G (c.fact 51 (f := fun K => (He.Fa.str "SIGNS" "abcdefghijklmnopqrstuvwxyz0123456789").ok K) rfl)
  have c_SPAN_PARTS := He.int_ok X G (c.fact 52 (f := fun K => (He.Fa.int "SPAN_PARTS" 2).ok K) rfl)
  have c_THEN := He.str_ok X G (c.fact 53 (f := fun K => (He.Fa.str "THEN" "then").ok K) rfl)
  have c_WAIT := He.str_ok X G (c.fact 54 (f := fun K => (He.Fa.str "WAIT" "wait").ok K) rfl)
  have err_InvalidPolicy : ErrC K (He.ga K "InvalidPolicy") := errB_ok (c.fact 55 (f := (errB "InvalidPolicy")) rfl)
  have err_NoPart : ErrC K (He.ga K "NoPart") := errB_ok (c.fact 56 (f := (errB "NoPart")) rfl)
  have err_PolicyError : ErrC K (He.ga K "PolicyError") := errB_ok (c.fact 57 (f := (errB "PolicyError")) rfl)
  have exm_InvalidPolicy_PolicyError : PySem.W.exmOne K (.ref (He.ga K "InvalidPolicy")) (.ref (He.ga K "PolicyError")) = some true := of_decide_eq_true (c.fact 58 (f := (exmB "InvalidPolicy" "PolicyError" true)) rfl)
  have exm_NoPart_PolicyError : PySem.W.exmOne K (.ref (He.ga K "NoPart")) (.ref (He.ga K "PolicyError")) = some true := of_decide_eq_true (c.fact 59 (f := (exmB "NoPart" "PolicyError" true)) rfl)
  have exm_PolicyError_PolicyError : PySem.W.exmOne K (.ref (He.ga K "PolicyError")) (.ref (He.ga K "PolicyError")) = some true := of_decide_eq_true (c.fact 60 (f := (exmB "PolicyError" "PolicyError" true)) rfl)
  have g_InvalidPolicy : mg "InvalidPolicy" = some (.ref (He.ga K "InvalidPolicy")) := He.glo_ok X G (c.fact 61 (f := (fun K => (He.Fa.glo "InvalidPolicy").ok K)) rfl)
  have g_NoPart : mg "NoPart" = some (.ref (He.ga K "NoPart")) := He.glo_ok X G (c.fact 62 (f := (fun K => (He.Fa.glo "NoPart").ok K)) rfl)
  have g_PolicyError : mg "PolicyError" = some (.ref (He.ga K "PolicyError")) := He.glo_ok X G (c.fact 63 (f := (fun K => (He.Fa.glo "PolicyError").ok K)) rfl)
  have g_law : mg "law" = some (.ref (He.ga K "law")) := He.glo_ok X G (c.fact 64 (f := (fun K => (He.Fa.glo "law").ok K)) rfl)
  have isN_InvalidPolicy : PySem.W.kitAny K (.type "NoneType") [.ref (He.ga K "InvalidPolicy")] = some false := of_decide_eq_true (c.fact 65 (f := (isNB ["InvalidPolicy"])) rfl)
  have isN_NoPart : PySem.W.kitAny K (.type "NoneType") [.ref (He.ga K "NoPart")] = some false := of_decide_eq_true (c.fact 66 (f := (isNB ["NoPart"])) rfl)
  have is_InvalidPolicy_InvalidPolicy : PySem.W.kitAny K (.ref (He.ga K "InvalidPolicy")) [.ref (He.ga K "InvalidPolicy")] = some true := of_decide_eq_true (c.fact 67 (f := (isB "InvalidPolicy" ["InvalidPolicy"] true)) rfl)
  have is_InvalidPolicy_NoPart : PySem.W.kitAny K (.ref (He.ga K "InvalidPolicy")) [.ref (He.ga K "NoPart")] = some false := of_decide_eq_true (c.fact 68 (f := (isB "InvalidPolicy" ["NoPart"] false)) rfl)
  have is_NoPart_InvalidPolicy : PySem.W.kitAny K (.ref (He.ga K "NoPart")) [.ref (He.ga K "InvalidPolicy")] = some false := of_decide_eq_true (c.fact 69 (f := (isB "NoPart" ["InvalidPolicy"] false)) rfl)
  have is_NoPart_NoPart : PySem.W.kitAny K (.ref (He.ga K "NoPart")) [.ref (He.ga K "NoPart")] = some true := of_decide_eq_true (c.fact 70 (f := (isB "NoPart" ["NoPart"] true)) rfl)
  have is_PolicyError_InvalidPolicy : PySem.W.kitAny K (.ref (He.ga K "PolicyError")) [.ref (He.ga K "InvalidPolicy")] = some false := of_decide_eq_true (c.fact 71 (f := (isB "PolicyError" ["InvalidPolicy"] false)) rfl)
  have is_PolicyError_NoPart : PySem.W.kitAny K (.ref (He.ga K "PolicyError")) [.ref (He.ga K "NoPart")] = some false := of_decide_eq_true (c.fact 72 (f := (isB "PolicyError" ["NoPart"] false)) rfl)
  have noat_InvalidPolicy_value : PySem.W.findIn K (.ref (He.ga K "InvalidPolicy")) "value" = some none := He.noat_ok (c.fact 73 (f := (fun K => (He.Fa.noat "InvalidPolicy" "value").ok K)) rfl)
  have noat_NoPart_value : PySem.W.findIn K (.ref (He.ga K "NoPart")) "value" = some none := He.noat_ok (c.fact 74 (f := (fun K => (He.Fa.noat "NoPart" "value").ok K)) rfl)
  have sysK : SysK K := sysB_ok (c.fact 75 (f := sysB) rfl)
  have tab_SIZES : TabC K w mg "SIZES" [("call", 5), ("wait", 2), ("then", 3), ("fallback", 4), ("retry", 3), ("timeout", 3), ("race", 4), ("hedge", 4), ("both", 3)] := tabB_ok X G (c.fact 76 (f := (tabB "SIZES" [("call", 5), ("wait", 2), ("then", 3), ("fallback", 4), ("retry", 3), ("timeout", 3), ("race", 4), ("hedge", 4), ("both", 3)])) rfl) (cT.t.tab 0 (t := (fun K => He.ga K "SIZES", ["call", "wait", "then", "fallback", "retry", "timeout", "race", "hedge", "both"])) rfl)
  have tup_NUMBERED : TupC K mg "NUMBERED" ["wait", "retry", "fallback", "timeout", "race", "hedge"] := tupB_ok X G (c.fact 77 (f := (tupB "NUMBERED" ["wait", "retry", "fallback", "timeout", "race", "hedge"])) rfl)
  have txt_InvalidPolicy : Cfvalue.Txt K (He.ga K "InvalidPolicy") (He.ma K (He.ga K "InvalidPolicy") "__init__") "InvalidPolicy.__init__" := (by obtain ⟨fd, F⟩ := c.def_ 27 (d := di_InvalidPolicy) rfl; exact Cfvalue.txt_ok (c.fact 78 (f := (Cfvalue.txtB "InvalidPolicy")) rfl) F)
  have D_is_label : Df K mg "is_label" st_is_label := by obtain ⟨fd, F⟩ := c.def_ 0 (d := d_is_label) rfl; exact ⟨_, fd, F, He.glo_ok X G (c.fact 0 (f := fun K => (He.Fa.glo "is_label").ok K) rfl)⟩
  have D_is_number : Df K mg "is_number" st_is_number := by obtain ⟨fd, F⟩ := c.def_ 1 (d := d_is_number) rfl; exact ⟨_, fd, F, He.glo_ok X G (c.fact 1 (f := fun K => (He.Fa.glo "is_number").ok K) rfl)⟩
  have D_is_span : Df K mg "is_span" st_is_span := by obtain ⟨fd, F⟩ := c.def_ 2 (d := d_is_span) rfl; exact ⟨_, fd, F, He.glo_ok X G (c.fact 2 (f := fun K => (He.Fa.glo "is_span").ok K) rfl)⟩
  have D_is_call : Df K mg "is_call" st_is_call := by obtain ⟨fd, F⟩ := c.def_ 3 (d := d_is_call) rfl; exact ⟨_, fd, F, He.glo_ok X G (c.fact 3 (f := fun K => (He.Fa.glo "is_call").ok K) rfl)⟩
  have D_has_number : Df K mg "has_number" st_has_number := by obtain ⟨fd, F⟩ := c.def_ 4 (d := d_has_number) rfl; exact ⟨_, fd, F, He.glo_ok X G (c.fact 4 (f := fun K => (He.Fa.glo "has_number").ok K) rfl)⟩
  have D_has_form : Df K mg "has_form" st_has_form := by obtain ⟨fd, F⟩ := c.def_ 5 (d := d_has_form) rfl; exact ⟨_, fd, F, He.glo_ok X G (c.fact 5 (f := fun K => (He.Fa.glo "has_form").ok K) rfl)⟩
  have D_inner : Df K mg "inner" st_inner := by obtain ⟨fd, F⟩ := c.def_ 6 (d := d_inner) rfl; exact ⟨_, fd, F, He.glo_ok X G (c.fact 6 (f := fun K => (He.Fa.glo "inner").ok K) rfl)⟩
  have D_is_policy : Df K mg "is_policy" st_is_policy := by obtain ⟨fd, F⟩ := c.def_ 7 (d := d_is_policy) rfl; exact ⟨_, fd, F, He.glo_ok X G (c.fact 7 (f := fun K => (He.Fa.glo "is_policy").ok K) rfl)⟩
  have D_with_inner : Df K mg "with_inner" st_with_inner := by obtain ⟨fd, F⟩ := c.def_ 8 (d := d_with_inner) rfl; exact ⟨_, fd, F, He.glo_ok X G (c.fact 8 (f := fun K => (He.Fa.glo "with_inner").ok K) rfl)⟩
  have D_check_policy : Df K mg "check_policy" st_check_policy := by obtain ⟨fd, F⟩ := c.def_ 9 (d := d_check_policy) rfl; exact ⟨_, fd, F, He.glo_ok X G (c.fact 9 (f := fun K => (He.Fa.glo "check_policy").ok K) rfl)⟩
  have D_with_labels : Df K mg "with_labels" st_with_labels := by obtain ⟨fd, F⟩ := c.def_ 10 (d := d_with_labels) rfl; exact ⟨_, fd, F, He.glo_ok X G (c.fact 10 (f := fun K => (He.Fa.glo "with_labels").ok K) rfl)⟩
  have D_relabelled : Df K mg "relabelled" st_relabelled := by obtain ⟨fd, F⟩ := c.def_ 11 (d := d_relabelled) rfl; exact ⟨_, fd, F, He.glo_ok X G (c.fact 11 (f := fun K => (He.Fa.glo "relabelled").ok K) rfl)⟩
  have D__law_urn : Df K mg "_law_urn" st__law_urn := by obtain ⟨fd, F⟩ := c.def_ 12 (d := d__law_urn) rfl; exact ⟨_, fd, F, He.glo_ok X G (c.fact 12 (f := fun K => (He.Fa.glo "_law_urn").ok K) rfl)⟩
  have D__law_next : Df K mg "_law_next" st__law_next := by obtain ⟨fd, F⟩ := c.def_ 13 (d := d__law_next) rfl; exact ⟨_, fd, F, He.glo_ok X G (c.fact 13 (f := fun K => (He.Fa.glo "_law_next").ok K) rfl)⟩
  have D__law_of : Df K mg "_law_of" st__law_of := by obtain ⟨fd, F⟩ := c.def_ 14 (d := d__law_of) rfl; exact ⟨_, fd, F, He.glo_ok X G (c.fact 14 (f := fun K => (He.Fa.glo "_law_of").ok K) rfl)⟩
  have D__law_span : Df K mg "_law_span" st__law_span := by obtain ⟨fd, F⟩ := c.def_ 15 (d := d__law_span) rfl; exact ⟨_, fd, F, He.glo_ok X G (c.fact 15 (f := fun K => (He.Fa.glo "_law_span").ok K) rfl)⟩
  have D__law_call : Df K mg "_law_call" st__law_call := by obtain ⟨fd, F⟩ := c.def_ 16 (d := d__law_call) rfl; exact ⟨_, fd, F, He.glo_ok X G (c.fact 16 (f := fun K => (He.Fa.glo "_law_call").ok K) rfl)⟩
  have D__law_label : Df K mg "_law_label" st__law_label := by obtain ⟨fd, F⟩ := c.def_ 17 (d := d__law_label) rfl; exact ⟨_, fd, F, He.glo_ok X G (c.fact 17 (f := fun K => (He.Fa.glo "_law_label").ok K) rfl)⟩
  have D__law_policy : Df K mg "_law_policy" st__law_policy := by obtain ⟨fd, F⟩ := c.def_ 18 (d := d__law_policy) rfl; exact ⟨_, fd, F, He.glo_ok X G (c.fact 18 (f := fun K => (He.Fa.glo "_law_policy").ok K) rfl)⟩
  have D__law_grown : Df K mg "_law_grown" st__law_grown := by obtain ⟨fd, F⟩ := c.def_ 19 (d := d__law_grown) rfl; exact ⟨_, fd, F, He.glo_ok X G (c.fact 19 (f := fun K => (He.Fa.glo "_law_grown").ok K) rfl)⟩
  have D__law_inner : Df K mg "_law_inner" st__law_inner := by obtain ⟨fd, F⟩ := c.def_ 20 (d := d__law_inner) rfl; exact ⟨_, fd, F, He.glo_ok X G (c.fact 20 (f := fun K => (He.Fa.glo "_law_inner").ok K) rfl)⟩
  have D__law_calls : Df K mg "_law_calls" st__law_calls := by obtain ⟨fd, F⟩ := c.def_ 21 (d := d__law_calls) rfl; exact ⟨_, fd, F, He.glo_ok X G (c.fact 21 (f := fun K => (He.Fa.glo "_law_calls").ok K) rfl)⟩
  have D__law_caught : Df K mg "_law_caught" st__law_caught := by obtain ⟨fd, F⟩ := c.def_ 22 (d := d__law_caught) rfl; exact ⟨_, fd, F, He.glo_ok X G (c.fact 22 (f := fun K => (He.Fa.glo "_law_caught").ok K) rfl)⟩
  have D__law_called : Df K mg "_law_called" st__law_called := by obtain ⟨fd, F⟩ := c.def_ 23 (d := d__law_called) rfl; exact ⟨_, fd, F, He.glo_ok X G (c.fact 23 (f := fun K => (He.Fa.glo "_law_called").ok K) rfl)⟩
  have D__law_fresh : Df K mg "_law_fresh" st__law_fresh := by obtain ⟨fd, F⟩ := c.def_ 24 (d := d__law_fresh) rfl; exact ⟨_, fd, F, He.glo_ok X G (c.fact 24 (f := fun K => (He.Fa.glo "_law_fresh").ok K) rfl)⟩
  have D__law_many_calls : Df K mg "_law_many_calls" st__law_many_calls := by obtain ⟨fd, F⟩ := c.def_ 25 (d := d__law_many_calls) rfl; exact ⟨_, fd, F, He.glo_ok X G (c.fact 25 (f := fun K => (He.Fa.glo "_law_many_calls").ok K) rfl)⟩
  obtain ⟨fdL, FL⟩ := c.def_ 26 (d := d_law) rfl
  have e := hfa.symm.trans (He.glo_ok X G (c.fact 26 (f := fun K => (He.Fa.glo "law").ok K) rfl))
  cases e
  refine ⟨fdL, fun s v => FunD.bindsA (ps := ["_law_script"]) FL (fun _ _ _ _ _ _ us hl => match us, hl with | [_], _ => rfl) s [v] rfl, fun base _ _ TBs => ?_⟩
  have TB_law := TBs ("law", "law.<locals>.<lambda>") (List.mem_of_getElem? (i := 0) rfl)
  have G_is_label := kn_is_label (P := P) (w := w) (base := base) D_is_label m_all m_isinstance m_len m_str c_LONGEST_LABEL c_SIGNS
  have G_is_number := kn_is_number (P := P) (w := w) (base := base) D_is_number m_bool m_int m_isinstance c_GREATEST_NUMBER
  have G_inner := kn_inner (P := P) (w := w) (base := base) D_inner c_BOTH c_CALL c_THEN c_WAIT
  have G_with_inner := kn_with_inner (P := P) (w := w) (base := base) D_with_inner m_len m_tuple
  have G__law_urn := kn__law_urn (P := P) (w := w) (base := base) D__law_urn m_abs m_int m_len
  have G__law_next := kn__law_next (P := P) (w := w) (base := base) D__law_next
  have G__law_label := kn__law_label (P := P) (w := w) (base := base) D__law_label m_int
  have G__law_inner := kn__law_inner (P := P) (w := w) (base := base) D__law_inner
  have G__law_many_calls := kn__law_many_calls (P := P) (w := w) (base := base) D__law_many_calls m_len
  have G_is_span := kn_is_span (P := P) (w := w) (base := base) D_is_span G_is_number m_all m_isinstance m_len m_tuple c_SPAN_PARTS
  have G_has_number := kn_has_number (P := P) (w := w) (base := base) D_has_number G_is_number m_all m_isinstance m_len m_tuple c_MOST_PAUSES c_RETRY c_WAIT
  have G__law_of := kn__law_of (P := P) (w := w) (base := base) D__law_of G__law_next m_len
  have G__law_span := kn__law_span (P := P) (w := w) (base := base) D__law_span G__law_next m_min
  have G__law_fresh := kn__law_fresh (P := P) (w := w) (base := base) D__law_fresh G__law_next m_len
  have G_is_call := kn_is_call (P := P) (w := w) (base := base) D_is_call G_is_label G_is_span m_all m_bool m_isinstance
  have G__law_call := kn__law_call (P := P) (w := w) (base := base) D__law_call G__law_next G__law_span
  have G_has_form := kn_has_form (P := P) (w := w) (base := base) D_has_form G_has_number G_is_call m_isinstance m_len m_str m_tuple c_CALL tab_SIZES tup_NUMBERED
  have G_is_policy := kn_is_policy (P := P) (w := w) (base := base) D_is_policy G_has_form G_inner c_CALL c_MOST_DEPTH c_MOST_PARTS
  have G_check_policy := kn_check_policy (P := P) (w := w) (base := base) D_check_policy G_is_policy g_InvalidPolicy txt_InvalidPolicy
  have G__law_called := kn__law_called (P := P) (w := w) (base := base) D__law_called G__law_inner m_len m_tuple
  have G__law_grown := kn__law_grown (P := P) (w := w) (base := base) D__law_grown G__law_call G__law_label G__law_next G__law_of m_range m_tuple
  have G__law_policy := kn__law_policy (P := P) (w := w) (base := base) D__law_policy G__law_grown G__law_of
  have G_with_labels := kn_with_labels (P := P) (w := w) (base := base) D_with_labels G_inner G_with_inner c_CALL
  have G__law_calls := kn__law_calls (P := P) (w := w) (base := base) D__law_calls G__law_inner
  have G_relabelled := kn_relabelled (P := P) (w := w) (base := base) D_relabelled G_check_policy G_with_labels
  have G__law_caught := kn__law_caught (P := P) (w := w) (base := base) D__law_caught m_isinstance err_InvalidPolicy err_NoPart err_PolicyError exm_InvalidPolicy_PolicyError exm_NoPart_PolicyError exm_PolicyError_PolicyError g_InvalidPolicy g_NoPart g_PolicyError isN_InvalidPolicy isN_NoPart is_InvalidPolicy_InvalidPolicy is_InvalidPolicy_NoPart is_NoPart_InvalidPolicy is_NoPart_NoPart is_PolicyError_InvalidPolicy is_PolicyError_NoPart noat_InvalidPolicy_value noat_NoPart_value
  have G_law := fn_law (P := P) (w := w) (base := base) FL rfl TB_law G__law_called G__law_calls G__law_caught G__law_fresh G__law_many_calls G__law_policy G__law_urn G_relabelled m_dict m_len m_list m_max m_min m_range m_repr m_sorted m_zip g_law sysK
  exact G_law
end K11
open PySem PySem.W PySem.Calls PyProof.Rows in
theorem K11.holds_of (hsem : ∀ ns : List Int, ns.length ≤ 63 → ∃ st, K11.sem_law [.s ns] [Cp.tabC "law" "law.<locals>.<lambda>"] = .ok (.d (.bool true)) st) : PySem.Challenge.rw_callpolicy_k11_policies_relabelled.Holds := by
  w_on; o_law
  refine HandSHeadRun.head_any (r := OpenLaw.row PySem.Challenge.rw_callpolicy_k11_policies_relabelled) (q := view (OpenLaw.row PySem.Challenge.rw_callpolicy_k11_policies_relabelled).prog [51]) (H := K11.hk) (ob := K11.ob) (M := 4000) (loose := K11.loose) (d := HandSHeadRun.topDef (OpenLaw.row PySem.Challenge.rw_callpolicy_k11_policies_relabelled).prog 51) (kwd := []) K11.ob_eq
    (by kernel_rfl) (fun s => by kernel_rfl) K11.run (by kernel_rfl) (by kernel_rfl) (by kernel_rfl) (by rfl) (by first | assumption | decide +kernel) (by decide +kernel) ⟨rfl, rfl, rfl, rfl, rfl, by decide +kernel⟩ ?hw ?hc
  case hw => w_witness2
  case hc =>
    refine Cp.law_walkT (tb := K11.tb) (l := PySem.Challenge.rw_callpolicy_k11_policies_relabelled) (n := 63) (k := 31) (x := "_law_script") (sem := K11.sem_law) rfl (by decide) (by kernel_rfl) (Cp.law_room (by decide)) ?F hsem
    intro w mg fa h Y G hmg0
    obtain ⟨K, KX, c⟩ := Y
    have hmg : mg ("law" : PySem.Str) = some (.ref fa) := by
      have e : (HandSHeadRun.topDef (OpenLaw.row PySem.Challenge.rw_callpolicy_k11_policies_relabelled).prog 51).name = ("law" : PySem.Str) := by kernel_rfl
      rw [← e]
      exact hmg0
    obtain ⟨fd, hb, hF⟩ := K11.facts (P := (PySem.Challenge.rw_callpolicy_k11_policies_relabelled).prog) (w := w) KX G hmg c
    exact ⟨K, fd, KX, c.empty, c.out, c.hd, c.nd, hb, hF⟩
/-! Ps: policies, their parts, paths, forms. -/
namespace Cp
open PySem L2
noncomputable def sbS_is_label : Sv := (sRet (eAnd (mIsi "str" (mN 0)) (eAnd (bV (mChn (gI fun i j => decide (i ≤ j)) (gI fun i j => decide (i ≤ j)) (mK (.int 1)) (mCal (gLen) (aCons (mV (mN 0)) aNil)) (mK (.int 8)))) (mCal (g1 fAll) (aCons (mV (mLc (iOf (mN 0)) (gNm 1) ttY (bV (mCmp (gInS false) (mN 1) (mK (.str "abcdefghijklmnopqrstuvwxyz0123456789")))) [1])) aNil)))))
noncomputable def semS_is_label : Fs := bodyF 2 1 sbS_is_label
noncomputable def sbS_is_number : Sv := (sRet (eAnd (mIsi "int" (mN 0)) (eAnd (eNot (mIsi "bool" (mN 0))) (bV (mChn (gI fun i j => decide (i ≤ j)) (gI fun i j => decide (i ≤ j)) (mK (.int 0)) (mN 0) (mK (.int 1000000000)))))))
noncomputable def semS_is_number : Fs := bodyF 1 1 sbS_is_number
noncomputable def sbS_is_span : Sv := (sSeq (sIf (bOr (bNot (mTru (mIsi "tuple" (mN 0)))) (bOr (mCmp gNe (mCal (gLen) (aCons (mV (mN 0)) aNil)) (mK (.int 2))) (bNot (mTru (mCal (g1 fAll) (aCons (mV (mLc (iOf (mN 0)) (gNm 1) ttY (mCall semS_is_number (aCons (mV (mN 1)) aNil)) [1])) aNil)))))) (sRet (mK (.bool false))) sNil) (sRet (bV (mCmp (gI fun i j => decide (i ≤ j)) (mBin fIx (mN 0) (mK (.int 0))) (mBin fIx (mN 0) (mK (.int 1)))))))
noncomputable def semS_is_span : Fs := bodyF 2 1 sbS_is_span
noncomputable def sbS_is_call : Sv := (sSeq (sAsg (gTp 5 (gCons9 (gNm 1) (gCons9 (gNm 2) (gCons9 (gNm 3) (gCons9 (gNm 4) (gCons9 (gNm 5) gNil9)))))) (mV (mN 0))) (sSeq (sIf (bOr (bNot (mTru (mCall semS_is_label (aCons (mV (mN 2)) aNil)))) (bNot (mTru (mIsi "bool" (mN 5))))) (sRet (mK (.bool false))) sNil) (sSeq (sIf (bNot (mTru (mCal (g1 fAll) (aCons (mV (mLc (iOf (mTup (aCons (mV (mN 3)) (aCons (mV (mN 4)) aNil)))) (gNm 6) ttY (eOr (bV (mCmp gIsN (mN 6) (mK .none))) (mCall semS_is_span (aCons (mV (mN 6)) aNil))) [6])) aNil)))) (sRet (mK (.bool false))) sNil) (sRet (eOr (mN 5) (eOr (bV (mCmp gNotN (mN 3) (mK .none))) (bV (mCmp gNotN (mN 4) (mK .none)))))))))
noncomputable def semS_is_call : Fs := bodyF 7 1 sbS_is_call
noncomputable def sbS_has_number : Sv := (sSeq (sIf (mCmp gEq (mN 0) (mK (.str "wait"))) (sRet (mCall semS_is_number (aCons (mV (mN 1)) aNil))) sNil) (sSeq (sIf (mCmp gEq (mN 0) (mK (.str "retry"))) (sRet (eAnd (mIsi "tuple" (mN 1)) (eAnd (bV (mCmp (gI fun i j => decide (i ≤ j)) (mCal (gLen) (aCons (mV (mN 1)) aNil)) (mK (.int 5)))) (mCal (g1 fAll) (aCons (mV (mLc (iOf (mN 1)) (gNm 2) ttY (mCall semS_is_number (aCons (mV (mN 2)) aNil)) [2])) aNil))))) sNil) (sRet (eOr (bV (mCmp gIsN (mN 1) (mK .none))) (mCall semS_is_number (aCons (mV (mN 1)) aNil))))))
noncomputable def semS_has_number : Fs := bodyF 3 2 sbS_has_number
noncomputable def sbS_has_form : Sv := (sSeq (sIf (bOr (bNot (mTru (mIsi "tuple" (mN 0)))) (bOr (mCmp gEq (mN 0) (mTup aNil)) (bNot (mTru (mIsi "str" (mBin fIx (mN 0) (mK (.int 0)))))))) (sRet (mK (.bool false))) sNil) (sSeq (sIf (mCmp gNe (mTabG [("call", 5), ("wait", 2), ("then", 3), ("fallback", 4), ("retry", 3), ("timeout", 3), ("race", 4), ("hedge", 4), ("both", 3)] (mBin fIx (mN 0) (mK (.int 0)))) (mCal (gLen) (aCons (mV (mN 0)) aNil))) (sRet (mK (.bool false))) sNil) (sSeq (sIf (mCmp gEq (mBin fIx (mN 0) (mK (.int 0))) (mK (.str "call"))) (sRet (mCall semS_is_call (aCons (mV (mN 0)) aNil))) sNil) (sRet (eOr (bV (mCmp (gIn true) (mBin fIx (mN 0) (mK (.int 0))) (mK (.tuple [.str "wait", .str "retry", .str "fallback", .str "timeout", .str "race", .str "hedge"])))) (mCall semS_has_number (aCons (mV (mBin fIx (mN 0) (mK (.int 0)))) (aCons (mV (mBin fIx (mN 0) (mK (.int 1)))) aNil))))))))
noncomputable def semS_has_form : Fs := bodyF 1 1 sbS_has_form
noncomputable def sbS_is_policy : Sv := (sSeq (sPar [1, 2, 3] (aCons (mVc (mLst (aCons (mV (mTup (aCons (mV (mN 0)) (aCons (mV (mK (.int 1))) aNil)))) aNil))) (aCons (mVc mD0) (aCons (mV (mK (.int 0))) aNil)))) (sSeq (whGo (mCmp gNe (mN 1) (mLst aNil)) (sSeq (sAsg (gTp 2 (gCons9 (gNm 4) (gCons9 (gNm 5) gNil9))) (mV (mPop (mN 1)))) (sSeq (sAugI 3 (mK (.int 1))) (sSeq (sIf (bOr (mCmp (gI fun i j => decide (j < i)) (mN 3) (mK (.int 40))) (bOr (mCmp (gI fun i j => decide (j < i)) (mN 5) (mK (.int 20))) (bNot (mTru (mCall semS_has_form (aCons (mV (mN 4)) aNil)))))) (sRet (mK (.bool false))) sNil) (sSeq (sIf (mCmp gEq (mBin fIx (mN 4) (mK (.int 0))) (mK (.str "call"))) (sSeq (sIf (mCmp (gInD false) (mBin fIx (mN 4) (mK (.int 1))) (mN 2)) (sRet (mK (.bool false))) sNil) (sDput (mN 2) (mBin fIx (mN 4) (mK (.int 1))) (mK (.bool true)))) sNil) (sExp (mExt (mN 1) (mLc (iOf (mCall semP_inner (aCons (mV (mN 4)) aNil))) (gNm 6) ttY (mTup (aCons (mV (mN 6)) (aCons (mV (mBin fAdd (mN 5) (mK (.int 1)))) aNil))) [6]))))))) 1048576) (sRet (mK (.bool true)))))
noncomputable def semS_is_policy : Fs := bodyF 7 1 sbS_is_policy
noncomputable def sbS_paths (sem : Fs) : Sv := (sSeq (sAsg (gNm 1) (mVc (mLst (aCons (mV (mTup aNil)) aNil)))) (sSeq (sFor (iEn (aCons (mV (mCall semP_inner (aCons (mV (mN 0)) aNil))) aNil)) (gTp 2 (gCons9 (gNm 2) (gCons9 (gNm 3) gNil9))) (sExp (mExt (mN 1) (mLc (iOf (mCall sem (aCons (mV (mN 3)) aNil))) (gNm 4) ttY (mBin fAdd (mTup (aCons (mV (mN 2)) aNil)) (mN 4)) [4])))) (sRet (mCal (g1 fTuple) (aCons (mV (mN 1)) aNil)))))
noncomputable def semS_paths : Nat → Fs
  | 0 => fun _ _ => .no
  | n + 1 => bodyF 5 1 (sbS_paths (semS_paths n))
noncomputable def sbS_is_index : Sv := (sRet (eAnd (mIsi "int" (mN 0)) (eAnd (eNot (mIsi "bool" (mN 0))) (bV (mChn (gI fun i j => decide (i ≤ j)) (gI fun i j => decide (i < j)) (mK (.int 0)) (mN 0) (mN 1))))))
noncomputable def semS_is_index : Fs := bodyF 2 2 sbS_is_index
noncomputable def sbS_check_part : Sv := (sSeq (sIf (bNot (mTru (mIsi "tuple" (mN 1)))) (sRaise1 "NoPart" "value" (aCons (mV (mN 1)) aNil)) sNil) (sSeq (sAsg (gNm 2) (mV (mN 0))) (sFor (iOf (mN 1)) (gNm 3) (sSeq (sAsg (gNm 4) (mV (mCall semP_inner (aCons (mV (mN 2)) aNil)))) (sSeq (sIf (bNot (mTru (mCall semS_is_index (aCons (mV (mN 3)) (aCons (mV (mCal (gLen) (aCons (mV (mN 4)) aNil))) aNil))))) (sRaise1 "NoPart" "value" (aCons (mV (mN 1)) aNil)) sNil) (sAsg (gNm 2) (mV (mBin fIx (mN 4) (mN 3)))))))))
noncomputable def semS_check_part : Fs := bodyF 5 2 sbS_check_part
noncomputable def sbS_part_at : Sv := (sSeq (sExp (mCall semS_check_part (aCons (mV (mN 0)) (aCons (mV (mN 1)) aNil)))) (sSeq (sAsg (gNm 2) (mV (mN 0))) (sSeq (sFor (iOf (mN 1)) (gNm 3) (sAsg (gNm 2) (mV (mBin fIx (mCall semP_inner (aCons (mV (mN 2)) aNil)) (mN 3))))) (sRet (mN 2)))))
noncomputable def semS_part_at : Fs := bodyF 4 2 sbS_part_at
noncomputable def sbS_with_inner : Sv := (sRet (mBin fAdd (mSl (mN 0) oNone (oSome (mBin (fI (fun _ _ => true) fun i j => i - j) (mCal (gLen) (aCons (mV (mN 0)) aNil)) (mCal (gLen) (aCons (mV (mN 1)) aNil))))) (mCal (g1 fTuple) (aCons (mV (mN 1)) aNil))))
noncomputable def semS_with_inner : Fs := bodyF 2 2 sbS_with_inner
noncomputable def sbS_put_at (sem : Fs) : Sv := (sSeq (sIf (mCmp gEq (mN 1) (mTup aNil)) (sRet (mN 2)) sNil) (sSeq (sAsg (gNm 3) (mVc (mCal (g1 fList) (aCons (mV (mCall semP_inner (aCons (mV (mN 0)) aNil))) aNil)))) (sSeq (sAsg (gPl (mN 3) (mBin fIx (mN 1) (mK (.int 0)))) (mV (mCall sem (aCons (mV (mBin fIx (mN 3) (mBin fIx (mN 1) (mK (.int 0))))) (aCons (mV (mSl (mN 1) (oSome (mK (.int 1))) oNone)) (aCons (mV (mN 2)) aNil)))))) (sRet (mCall semS_with_inner (aCons (mV (mN 0)) (aCons (mV (mN 3)) aNil)))))))
noncomputable def semS_put_at : Nat → Fs
  | 0 => fun _ _ => .no
  | n + 1 => bodyF 4 3 (sbS_put_at (semS_put_at n))
noncomputable def sbS_check_policy : Sv := (sIf (bNot (mTru (mCall semS_is_policy (aCons (mV (mN 0)) aNil)))) (sRaise1 "InvalidPolicy" "value" (aCons (mV (mN 0)) aNil)) sNil)
noncomputable def semS_check_policy : Fs := bodyF 1 1 sbS_check_policy
noncomputable def sbS_replaced : Sv := (sSeq (sExp (mCall semS_check_part (aCons (mV (mN 0)) (aCons (mV (mN 1)) aNil)))) (sSeq (sAsg (gNm 3) (mV (mCall (semS_put_at 25) (aCons (mV (mN 0)) (aCons (mV (mN 1)) (aCons (mV (mN 2)) aNil)))))) (sSeq (sExp (mCall semS_check_policy (aCons (mV (mN 3)) aNil))) (sRet (mN 3)))))
noncomputable def semS_replaced : Fs := bodyF 4 3 sbS_replaced
noncomputable def sbS_labels : Sv := (sSeq (sAsg (gNm 1) (mV (mLc (iOf (mCall (semS_paths 25) (aCons (mV (mN 0)) aNil))) (gNm 2) ttY (mCall semS_part_at (aCons (mV (mN 0)) (aCons (mV (mN 2)) aNil))) [2]))) (sRet (mCal (g1 fTuple) (aCons (mV (mCal (g1 fSorted) (aCons (mV (mLc (iOf (mN 1)) (gNm 3) (mCmp gEq (mBin fIx (mN 3) (mK (.int 0))) (mK (.str "call"))) (mBin fIx (mN 3) (mK (.int 1))) [3])) aNil))) aNil))))
noncomputable def semS_labels : Fs := bodyF 4 1 sbS_labels
noncomputable def sbS_number_of : Sv := (sRet (mBin fIx (mN 0) (mK (.int 1))))
noncomputable def semS_number_of : Fs := bodyF 1 1 sbS_number_of
noncomputable def sbS_numbers : Sv := (sSeq (sAsg (gNm 1) (mV (mLc (iOf (mCall (semS_paths 25) (aCons (mV (mN 0)) aNil))) (gNm 2) ttY (mTup (aCons (mV (mN 2)) (aCons (mV (mCall semS_part_at (aCons (mV (mN 0)) (aCons (mV (mN 2)) aNil)))) aNil))) [2]))) (sRet (mCal (g1 fTuple) (aCons (mV (mLc (iOf (mN 1)) (gTp 2 (gCons9 (gNm 2) (gCons9 (gNm 3) gNil9))) (mCmp (gIn false) (mBin fIx (mN 3) (mK (.int 0))) (mK (.tuple [.str "wait", .str "retry", .str "fallback", .str "timeout", .str "race", .str "hedge"]))) (mTup (aCons (mV (mN 2)) (aCons (mV (mCall semS_number_of (aCons (mV (mN 3)) aNil))) aNil))) [2, 3])) aNil))))
noncomputable def semS_numbers : Fs := bodyF 4 1 sbS_numbers
noncomputable def sbS_with_number : Sv := (sSeq (sAsg (gNm 3) (mV (mCall semS_part_at (aCons (mV (mN 0)) (aCons (mV (mN 1)) aNil))))) (sSeq (sIf (mCmp (gIn true) (mBin fIx (mN 3) (mK (.int 0))) (mK (.tuple [.str "wait", .str "retry", .str "fallback", .str "timeout", .str "race", .str "hedge"]))) (sRaise1 "NoPart" "value" (aCons (mV (mN 1)) aNil)) sNil) (sRet (mCall semS_replaced (aCons (mV (mN 0)) (aCons (mV (mN 1)) (aCons (mV (mBin fAdd (mTup (aCons (mV (mBin fIx (mN 3) (mK (.int 0)))) (aCons (mV (mN 2)) aNil))) (mSl (mN 3) (oSome (mK (.int 2))) oNone))) aNil)))))))
noncomputable def semS_with_number : Fs := bodyF 4 3 sbS_with_number
noncomputable def sbS_without_numbers (sem : Fs) : Sv := (sSeq (sAsg (gNm 1) (mV (mLc (iOf (mCall semP_inner (aCons (mV (mN 0)) aNil))) (gNm 3) ttY (mCall sem (aCons (mV (mN 3)) aNil)) [3]))) (sSeq (sAsg (gNm 2) (mV (mCall semS_with_inner (aCons (mV (mN 0)) (aCons (mV (mN 1)) aNil))))) (sRet (eIf (mCmp (gIn false) (mBin fIx (mN 2) (mK (.int 0))) (mK (.tuple [.str "wait", .str "retry", .str "fallback", .str "timeout", .str "race", .str "hedge"]))) (mBin fAdd (mTup (aCons (mV (mBin fIx (mN 2) (mK (.int 0)))) (aCons (mV (mK .none)) aNil))) (mSl (mN 2) (oSome (mK (.int 2))) oNone)) (mN 2)))))
noncomputable def semS_without_numbers : Nat → Fs
  | 0 => fun _ _ => .no
  | n + 1 => bodyF 4 1 (sbS_without_numbers (semS_without_numbers n))
noncomputable def sbS_same_form : Sv := (sRet (bV (mCmp gEq (mCall (semS_without_numbers 25) (aCons (mV (mN 0)) aNil)) (mCall (semS_without_numbers 25) (aCons (mV (mN 1)) aNil)))))
noncomputable def semS_same_form : Fs := bodyF 2 2 sbS_same_form
noncomputable def sbS_all_paths (sem : Fs) : Sv := (sSeq (sAsg (gNm 1) (mVc (mLst (aCons (mV (mTup aNil)) aNil)))) (sSeq (sFor (iEn (aCons (mV (mCall semP_linner (aCons (mV (mN 0)) aNil))) aNil)) (gTp 2 (gCons9 (gNm 2) (gCons9 (gNm 3) gNil9))) (sExp (mExt (mN 1) (mLc (iOf (mCall sem (aCons (mV (mN 3)) aNil))) (gNm 4) ttY (mBin fAdd (mTup (aCons (mV (mN 2)) aNil)) (mN 4)) [4])))) (sRet (mN 1))))
noncomputable def semS_all_paths : Nat → Fs
  | 0 => fun _ _ => .no
  | n + 1 => bodyF 5 1 (sbS_all_paths (semS_all_paths n))
noncomputable def sbS_part : Sv := (sSeq (sFor (iOf (mN 1)) (gNm 2) (sAsg (gNm 0) (mV (mBin fIx (mCall semP_linner (aCons (mV (mN 0)) aNil)) (mN 2))))) (sRet (mN 0)))
noncomputable def semS_part : Fs := bodyF 3 2 sbS_part
noncomputable def sbS_lput (sem : Fs) : Sv := (sSeq (sIf (mCmp gEq (mN 1) (mTup aNil)) (sRet (mN 2)) sNil) (sSeq (sAsg (gNm 3) (mVc (mCal (g1 fList) (aCons (mV (mCall semP_linner (aCons (mV (mN 0)) aNil))) aNil)))) (sSeq (sAsg (gPl (mN 3) (mBin fIx (mN 1) (mK (.int 0)))) (mV (mCall sem (aCons (mV (mBin fIx (mN 3) (mBin fIx (mN 1) (mK (.int 0))))) (aCons (mV (mSl (mN 1) (oSome (mK (.int 1))) oNone)) (aCons (mV (mN 2)) aNil)))))) (sRet (mBin fAdd (mSl (mN 0) oNone (oSome (mBin (fI (fun _ _ => true) fun i j => i - j) (mCal (gLen) (aCons (mV (mN 0)) aNil)) (mCal (gLen) (aCons (mV (mN 3)) aNil))))) (mCal (g1 fTuple) (aCons (mV (mN 3)) aNil)))))))
noncomputable def semS_lput : Nat → Fs
  | 0 => fun _ _ => .no
  | n + 1 => bodyF 4 3 (sbS_lput (semS_lput n))
noncomputable def sbS_calls (sem : Fs) : Sv := (sSeq (sIf (mCmp gEq (mBin fIx (mN 0) (mK (.int 0))) (mK (.str "call"))) (sRet (mDct [((mBin fIx (mN 0) (mK (.int 1))), (mN 0))])) sNil) (sSeq (sAsg (gNm 1) (mVc mD0)) (sSeq (sFor (iOf (mCall semP_linner (aCons (mV (mN 0)) aNil))) (gNm 2) (sExp (mUpd (mN 1) (mCall sem (aCons (mV (mN 2)) aNil))))) (sRet (mN 1)))))
noncomputable def semS_calls : Nat → Fs
  | 0 => fun _ _ => .no
  | n + 1 => bodyF 3 1 (sbS_calls (semS_calls n))

section
variable {st : Sto} {P : Rv → Sto → Prop} {E : Er → Sto → Prop}
def SIG : Str := Str.ofString "abcdefghijklmnopqrstuvwxyz0123456789"
structure IsLab (x : Str) : Prop where
  lo : 1 ≤ x.length
  hi : x.length ≤ 8
  sg : ∀ c ∈ x.cps.toList, c ∈ SIG.cps.toList
@[simp] theorem kb_str_str : kitB "str" "str" = some true := by decide +kernel
@[simp] theorem kb_tuple_tuple : kitB "tuple" "tuple" = some true := by decide +kernel
@[simp] theorem kb_int_int : kitB "int" "int" = some true := by decide +kernel
@[simp] theorem kb_int_bool : kitB "int" "bool" = some false := by decide +kernel
@[simp] theorem kb_bool_bool : kitB "bool" "bool" = some true := by decide +kernel
@[simp] theorem kb_bool_int : kitB "bool" "int" = some true := by decide +kernel
@[simp] theorem kb_str_tuple : kitB "str" "tuple" = some false := by decide +kernel
@[simp] theorem kb_str_int : kitB "str" "int" = some false := by decide +kernel
@[simp] theorem kb_tuple_str : kitB "tuple" "str" = some false := by decide +kernel
@[simp] theorem kb_tuple_int : kitB "tuple" "int" = some false := by decide +kernel
@[simp] theorem kb_NoneType_int : kitB "NoneType" "int" = some false := by decide +kernel
@[simp] theorem kb_NoneType_tuple : kitB "NoneType" "tuple" = some false := by decide +kernel
@[simp] theorem kb_NoneType_str : kitB "NoneType" "str" = some false := by decide +kernel
@[simp] theorem kb_list_tuple : kitB "list" "tuple" = some false := by decide +kernel
@[simp] theorem kb_int_tuple : kitB "int" "tuple" = some false := by decide +kernel
@[simp] theorem kb_int_str : kitB "int" "str" = some false := by decide +kernel
@[simp] theorem fLen_s (x : Str) : fLen (.str x) = if x.length ≤ sizeLine then some (.d (.int x.length)) else none := rfl
@[simp] theorem srcOf_s (x : Str) : srcOf st (.d (.str x)) = some (signs x, none) := rfl
@[simp] theorem tyD_s (x : Str) : tyD (.str x) = "str" := rfl
@[simp] theorem tyD_t (x : List PyData) : tyD (.tuple x) = "tuple" := rfl
@[simp] theorem tyD_i (x : Int) : tyD (.int x) = "int" := rfl
@[simp] theorem tyD_b (x : Bool) : tyD (.bool x) = "bool" := rfl
@[simp] theorem tyD_n : tyD .none = "NoneType" := rfl
@[simp] theorem truD_bS (b : Bool) : truD (.bool b) = some b := rfl
theorem fAll_trues {n : Nat} {α : Type} (l : List α) : fAll (.list (l.map fun _ => PyData.bool true)) = some (.d (.bool true)) := by
  have : l.map (fun _ => PyData.bool true) = List.replicate l.length (.bool true) := List.map_const'
  rw [this]; exact fAll_true _
theorem w_is_label {x : Str} (hx : IsLab x) (h : P (.d (.bool true)) st) : WVe noE (semS_is_label [.d (.str x)] st) P := by
  unfold semS_is_label sbS_is_label
  rw [W_body]
  have h1 := hx.lo
  have h2 := hx.hi
  have h3 : (1 : Int) ≤ x.length := by omega
  have h4 : (x.length : Int) ≤ 8 := by omega
  have h5 : x.length ≤ 16777216 := by omega
  simp [szl, h3, h4, h5]
  have hsl : (signs x).length ≤ sizeLine := by unfold signs; rw [List.length_map, szl]; exact h5
  refine lc_map (fun _ => .bool true) (fun d hd => ?_) hsl ?_
  · unfold signs at hd
    obtain ⟨c, hc, rfl⟩ := List.mem_map.mp hd
    have := hx.sg c hc
    simp [wipeE, gInS]
    exact Array.mem_toList_iff.mp this
  · rw [fAll_trues (n := 0)]
    exact h
theorem w_is_num {i : Int} (h0 : 0 ≤ i) (h1 : i ≤ 1000000000) (h : P (.d (.bool true)) st) : WVe noE (semS_is_number [.d (.int i)] st) P := by
  unfold semS_is_number sbS_is_number
  rw [W_body]
  simp [h0, h1]
  exact h
def SpOk : Span → Prop
  | none => True
  | some p => 0 ≤ p.1 ∧ p.1 ≤ p.2 ∧ p.2 ≤ 1000000000
theorem w_is_span {p : Int × Int} (hp : SpOk (some p)) (h : P (.d (.bool true)) st) : WVe noE (semS_is_span [.d (spD (some p))] st) P := by
  obtain ⟨h0, h1, h2⟩ := hp
  unfold semS_is_span sbS_is_span
  rw [W_body]
  have h3 : p.1 ≤ 1000000000 := by omega
  have h4 : 0 ≤ p.2 := by omega
  simp [spD]
  refine lc_map (fun _ => .bool true) (fun d hd => ?_) (by simp [szl]) ?_
  · simp at hd
    rcases hd with rfl | rfl
    · simp [wipeE]
      exact w_is_num h0 h3 (by simp)
    · simp [wipeE]
      exact w_is_num h4 h2 (by simp)
  · rw [fAll_trues (n := 0)]
    simp [truD, h1]
    exact h
/-- what a policy's node keeps -/
def NuOk : Option Int → Prop
  | none => True
  | some n => 0 ≤ n ∧ n ≤ 1000000000
def Pol.Node : Pol → Prop
  | .call l g b h => IsLab l ∧ SpOk g ∧ SpOk b ∧ (h = true ∨ g ≠ none ∨ b ≠ none)
  | .wait n => 0 ≤ n ∧ n ≤ 1000000000
  | .two _ _ _ => True
  | .num _ n _ _ => NuOk n
  | .retry ps _ => ps.length ≤ 5 ∧ ∀ x ∈ ps, 0 ≤ x ∧ x ≤ 1000000000
  | .tmo n _ => NuOk n
def Pol.All (Q : Pol → Prop) : Pol → Prop
  | .call l g b h => Q (.call l g b h)
  | .wait n => Q (.wait n)
  | .two k a b => Q (.two k a b) ∧ a.All Q ∧ b.All Q
  | .num k n a b => Q (.num k n a b) ∧ a.All Q ∧ b.All Q
  | .retry ps a => Q (.retry ps a) ∧ a.All Q
  | .tmo n a => Q (.tmo n a) ∧ a.All Q
theorem Pol.All.top {Q : Pol → Prop} {p : Pol} (h : p.All Q) : Q p := by
  cases p <;> first | exact h | exact h.1
theorem Pol.All.inn {Q : Pol → Prop} {p q : Pol} (h : p.All Q) (hq : q ∈ p.inn) : q.All Q := by
  cases p with
  | call _ _ _ _ => cases hq
  | wait _ => cases hq
  | two k a b => simp [Pol.inn] at hq; rcases hq with rfl | rfl; exact h.2.1; exact h.2.2
  | num k n a b => simp [Pol.inn] at hq; rcases hq with rfl | rfl; exact h.2.1; exact h.2.2
  | retry ps a => simp [Pol.inn] at hq; subst hq; exact h.2
  | tmo n a => simp [Pol.inn] at hq; subst hq; exact h.2
theorem gNe_none_i (i : Int) : gNe .none (.int i) = some true := by
  unfold gNe
  rfl
theorem w_is_call {l : Str} {g b : Span} {hh : Bool} (hn : (Pol.call l g b hh).Node) (h : P (.d (.bool true)) st) : WVe noE (semS_is_call [.d (Pol.call l g b hh).pd] st) P := by
  obtain ⟨h1, h2, h3, h4⟩ := hn
  unfold semS_is_call sbS_is_call
  rw [W_body]
  simp [Pol.pd]
  refine w_is_label h1 ?_
  simp [truD, szl]
  refine lc_map (ds := [spD g, spD b]) (fun _ => .bool true) (fun d hd => ?_) (by simp [szl]) ?_
  · simp at hd
    rcases hd with rfl | rfl
    · cases g with
      | none => simp [wipeE, spD, gIsN]
      | some p => simp [wipeE, gIsN]; simp [spD]; exact w_is_span h2 (by simp)
    · cases b with
      | none => simp [wipeE, spD, gIsN]
      | some p => simp [wipeE, gIsN]; simp [spD]; exact w_is_span h3 (by simp)
  · rw [fAll_trues (n := 0)]
    cases hh with
    | true => simp [truD]; exact h
    | false =>
      cases g with
      | some p => simp [truD, spD, gNotN]; exact h
      | none =>
        cases b with
        | some p => simp [truD, spD, gNotN]; exact h
        | none => simp at h4
theorem w_has_number_opt {k : String} {n : Option Int} (hk : k = "fallback" ∨ k = "timeout" ∨ k = "race" ∨ k = "hedge") (hn : NuOk n) (h : P (.d (.bool true)) st) : WVe noE (semS_has_number [.d (.str (Str.ofString k)), .d (nuD n)] st) P := by
  unfold semS_has_number sbS_has_number
  rw [W_body]
  have e1 : (k = "wait") = False := by rcases hk with rfl | rfl | rfl | rfl <;> simp
  have e2 : (k = "retry") = False := by rcases hk with rfl | rfl | rfl | rfl <;> simp
  cases n with
  | none => simp [nuD, e1, e2, gIsN]; exact h
  | some n => simp [nuD, e1, e2, gIsN]; exact w_is_num hn.1 hn.2 (by simpa using h)
theorem w_has_number_wait {n : Int} (h0 : 0 ≤ n) (h1 : n ≤ 1000000000) (h : P (.d (.bool true)) st) : WVe noE (semS_has_number [.d (.str (Str.ofString "wait")), .d (.int n)] st) P := by
  unfold semS_has_number sbS_has_number
  rw [W_body]
  simp
  exact w_is_num h0 h1 (by simpa using h)
theorem w_has_number_retry {ps : List Int} (hl : ps.length ≤ 5) (hx : ∀ x ∈ ps, 0 ≤ x ∧ x ≤ 1000000000) (h : P (.d (.bool true)) st) : WVe noE (semS_has_number [.d (.str (Str.ofString "retry")), .d (.tuple (ps.map PyData.int))] st) P := by
  unfold semS_has_number sbS_has_number
  rw [W_body]
  have hl' : (ps.length : Int) ≤ 5 := by omega
  simp [hl']
  refine lc_map (fun _ => .bool true) (fun d hd => ?_) (by simp [szl]; omega) ?_
  · obtain ⟨x, hx', rfl⟩ := List.mem_map.mp hd
    simp [wipeE]
    exact w_is_num (hx x hx').1 (hx x hx').2 (by simp)
  · rw [fAll_trues (n := 0)]
    simp
    exact h
theorem shp_pol {ds : List PyData} (h : ∀ d ∈ ds, okS d ∧ d.depth ≤ 50) : gEq (.tuple ds) (.tuple []) = some ds.isEmpty := by
  have e := gEq_at (a := .tuple ds) (b := .tuple []) (okSs_of fun d hd => (h d hd).1) trivial (by
    show PyData.depthAll ds + 1 ≤ 64
    have := depthAll_le (B := 50) (ds := ds) fun d hd => (h d hd).2
    omega) (by decide)
  rw [e]
  cases ds with
  | nil => rfl
  | cons _ _ => rfl
/-- a policy's texts and numbers can be shown and compared -/
theorem Pol.okS : ∀ {p : Pol}, p.All Pol.Node → Cp.okS p.pd
  | .call l g b h, hn => by
    obtain ⟨h1, h2, h3, h4⟩ := hn
    have sp : ∀ g : Span, SpOk g → Cp.okS (spD g) := fun g hg => by
      cases g with
      | none => trivial
      | some p => exact ⟨log_small (k := 40) (by have := hg.1; have := hg.2; omega) (by decide), log_small (k := 40) (by have := hg.1; have := hg.2; omega) (by decide), trivial⟩
    refine ⟨sgn_ofS _, ?_, sp g h2, sp b h3, trivial, trivial⟩
    intro c hc
    have hz := h1.sg c hc
    exact sgn_ofS _ c hz
  | .wait n, hn => ⟨sgn_ofS _, log_small (k := 40) (by have := hn.1; have := hn.2; omega) (by decide), trivial⟩
  | .two k a b, hn => ⟨sgn_ofS _, Pol.okS hn.2.1, Pol.okS hn.2.2, trivial⟩
  | .num k n a b, hn => ⟨sgn_ofS _, (by
    cases n with
    | none => trivial
    | some n => exact log_small (k := 40) (by have := hn.1.1; have := hn.1.2; omega) (by decide)), Pol.okS hn.2.1, Pol.okS hn.2.2, trivial⟩
  | .retry ps a, hn => ⟨sgn_ofS _, (okSs_of fun d hd => by
      obtain ⟨x, hx, rfl⟩ := List.mem_map.mp hd
      exact log_small (k := 40) (by have := hn.1.2 x hx; omega) (by decide)), Pol.okS hn.2, trivial⟩
  | .tmo n a, hn => ⟨sgn_ofS _, (by
    cases n with
    | none => trivial
    | some n => exact log_small (k := 40) (by have := hn.1.1; have := hn.1.2; omega) (by decide)), Pol.okS hn.2, trivial⟩
theorem Pol.pd_depth : ∀ p : Pol, p.pd.depth ≤ p.depth + 1
  | .call l g b h => by
    have sp : ∀ g : Span, (spD g).depth ≤ 1 := fun g => by cases g <;> first | exact Nat.zero_le _ | exact Nat.le_refl _
    show PyData.depthAll [.str _, .str l, spD g, spD b, .bool h] + 1 ≤ 2
    have := sp g
    have := sp b
    simp [PyData.depthAll, PyData.depth]; omega
  | .wait n => by show PyData.depthAll [.str _, .int n] + 1 ≤ 2; simp [PyData.depthAll, PyData.depth]
  | .two k a b => by
    show PyData.depthAll [.str _, a.pd, b.pd] + 1 ≤ _
    have := a.pd_depth
    have := b.pd_depth
    simp [PyData.depthAll, PyData.depth, Pol.depth]; omega
  | .num k n a b => by
    show PyData.depthAll [.str _, nuD n, a.pd, b.pd] + 1 ≤ _
    have := a.pd_depth
    have := b.pd_depth
    have : (nuD n).depth = 0 := by cases n <;> rfl
    simp [PyData.depthAll, PyData.depth, Pol.depth]; omega
  | .retry ps a => by
    show PyData.depthAll [.str _, .tuple (ps.map PyData.int), a.pd] + 1 ≤ _
    have := a.pd_depth
    have h0 : PyData.depthAll (ps.map PyData.int) ≤ 0 := depthAll_le fun d hd => by
      obtain ⟨x, _, rfl⟩ := List.mem_map.mp hd; exact Nat.le_refl _
    have h1 : a.depth ≥ 1 := by cases a <;> simp [Pol.depth] <;> omega
    have : (PyData.tuple (ps.map PyData.int)).depth = PyData.depthAll (ps.map PyData.int) + 1 := rfl
    simp [PyData.depthAll, PyData.depth, Pol.depth]; omega
  | .tmo n a => by
    show PyData.depthAll [.str _, nuD n, a.pd] + 1 ≤ _
    have := a.pd_depth
    have : (nuD n).depth = 0 := by cases n <;> rfl
    simp [PyData.depthAll, PyData.depth, Pol.depth]; omega
theorem pd_nil {p : Pol} (hn : p.All Pol.Node) (hd : p.depth ≤ 48) : ∀ ds, p.pd = .tuple ds → gEq (.tuple ds) (.tuple []) = some false := fun ds e => by
  have h1 := Pol.okS hn
  rw [e] at h1
  have h2 := p.pd_depth
  rw [e] at h2
  have h3 : PyData.depthAll ds + 1 ≤ p.depth + 1 := h2
  have := gEq_at (a := .tuple ds) (b := .tuple []) h1 trivial (by show PyData.depthAll ds + 1 ≤ 64; omega) (by decide)
  rw [this]
  obtain ⟨r, er⟩ := inn_pd p
  rw [e] at er
  cases er
  rfl
theorem w_has_form {p : Pol} (hn : p.All Pol.Node) (hd : p.depth ≤ 48) (h : P (.d (.bool true)) st) : WVe noE (semS_has_form [.d p.pd] st) P := by
  unfold semS_has_form sbS_has_form
  rw [W_body]
  have hz := pd_nil hn hd
  have ht := hn.top
  cases p with
  | call l g b hh =>
    have e := hz _ rfl
    simp [Pol.pd] at e ⊢
    simp [e]
    exact w_is_call (l := l) ht (by simpa using h)
  | wait n =>
    have e := hz _ rfl
    simp [Pol.pd] at e ⊢
    simp [e, gIn, itemsD, flatD, eqF]
    exact w_has_number_wait ht.1 ht.2 (by simpa using h)
  | two k a b =>
    have e := hz _ rfl
    cases k <;> simp [Pol.pd, Two.s] at e ⊢ <;> simp [e, gIn, itemsD, flatD, eqF] <;> exact h
  | num k n a b =>
    have e := hz _ rfl
    cases k <;> simp [Pol.pd, Num.s] at e ⊢ <;> simp [e, gIn, itemsD, flatD, eqF] <;> exact w_has_number_opt (by simp) ht (by simpa using h)
  | retry ps a =>
    have e := hz _ rfl
    simp [Pol.pd] at e ⊢
    simp [e, gIn, itemsD, flatD, eqF]
    exact w_has_number_retry ht.1 ht.2 (by simpa using h)
  | tmo n a =>
    have e := hz _ rfl
    simp [Pol.pd] at e ⊢
    simp [e, gIn, itemsD, flatD, eqF]
    exact w_has_number_opt (by simp) ht (by simpa using h)
/-! ### paths -/
def Pol.paths : Pol → List (List Nat)
  | .call _ _ _ _ => [[]]
  | .wait _ => [[]]
  | .two _ a b => [] :: (a.paths.map (0 :: ·) ++ b.paths.map (1 :: ·))
  | .num _ _ a b => [] :: (a.paths.map (0 :: ·) ++ b.paths.map (1 :: ·))
  | .retry _ a => [] :: a.paths.map (0 :: ·)
  | .tmo _ a => [] :: a.paths.map (0 :: ·)
def paD (q : List Nat) : PyData := .tuple (q.map fun (n : Nat) => .int (n : Int))
theorem Pol.paths_len : ∀ p : Pol, p.paths.length = p.size
  | .call _ _ _ _ => rfl
  | .wait _ => rfl
  | .two _ a b => by simp [Pol.paths, Pol.size, a.paths_len, b.paths_len]; omega
  | .num _ _ a b => by simp [Pol.paths, Pol.size, a.paths_len, b.paths_len]; omega
  | .retry _ a => by simp [Pol.paths, Pol.size, a.paths_len]; omega
  | .tmo _ a => by simp [Pol.paths, Pol.size, a.paths_len]; omega
theorem Pol.paths_short : ∀ (p : Pol), ∀ q ∈ p.paths, q.length + 1 ≤ p.depth
  | .call _ _ _ _, q, h => by simp [Pol.paths] at h; subst h; simp [Pol.depth]
  | .wait _, q, h => by simp [Pol.paths] at h; subst h; simp [Pol.depth]
  | .two _ a b, q, h => by
    simp [Pol.paths] at h
    rcases h with rfl | ⟨r, hr, rfl⟩ | ⟨r, hr, rfl⟩
    · simp [Pol.depth]
    · have := a.paths_short r hr; simp [Pol.depth]; omega
    · have := b.paths_short r hr; simp [Pol.depth]; omega
  | .num _ _ a b, q, h => by
    simp [Pol.paths] at h
    rcases h with rfl | ⟨r, hr, rfl⟩ | ⟨r, hr, rfl⟩
    · simp [Pol.depth]
    · have := a.paths_short r hr; simp [Pol.depth]; omega
    · have := b.paths_short r hr; simp [Pol.depth]; omega
  | .retry _ a, q, h => by
    simp [Pol.paths] at h
    rcases h with rfl | ⟨r, hr, rfl⟩
    · simp [Pol.depth]
    · have := a.paths_short r hr; simp [Pol.depth]; omega
  | .tmo _ a, q, h => by
    simp [Pol.paths] at h
    rcases h with rfl | ⟨r, hr, rfl⟩
    · simp [Pol.depth]
    · have := a.paths_short r hr; simp [Pol.depth]; omega
@[simp] theorem tq1 (s : Sto) (x : Cl) (t : Sto) : (s ++ (x :: t)).take (s.length + 1) = s ++ [x] := by
  rw [List.take_append, List.take_of_length_le (by omega), Nat.add_sub_cancel_left]; rfl
theorem paD_cons (i : Nat) (q : List Nat) : paD (i :: q) = .tuple (.int (i : Int) :: q.map fun (n : Nat) => .int (n : Int)) := rfl
theorem w_paths : ∀ (f : Nat) {p : Pol} {st : Sto} {P : Rv → Sto → Prop}, p.depth ≤ f → p.size ≤ 1000 → p.depth ≤ 100 → (∀ t, P (.d (.tuple (p.paths.map paD))) (st ++ t)) → WVe noE (semS_paths f [.d p.pd] st) P
  | 0, p, _, _, h, _, _, _ => by have : 1 ≤ p.depth := by cases p <;> simp [Pol.depth] <;> omega
                                 omega
  | f + 1, p, st, P, hf, hs, hd, h => by
    show WVe noE (bodyF 5 1 (sbS_paths (semS_paths f)) _ _) P
    unfold sbS_paths
    rw [W_body]
    have one : ∀ {a : Pol} {i : Nat} {xs : List PyData} {x y z : Option Vl} {N B C : En → Sto → Prop} {R : Rv → Sto → Prop}, a.depth ≤ f → a.size ≤ 1000 → a.depth ≤ 99 → xs.length ≤ 2000 →
        (∀ x y, N [some (.d p.pd), some (.c st.length), x, y, z] (st ++ [.l (xs ++ (a.paths.map (i :: ·)).map paD)])) →
        WSe noE (sExp (mExt (mN 1) (mLc (iOf (mCall (semS_paths f) (aCons (mV (mN 3)) aNil))) (gNm 4) ttY (mBin fAdd (mTup (aCons (mV (mN 2)) aNil)) (mN 4)) [4])) [some (.d p.pd), some (.c st.length), some (.d (.int (i : Int))), some (.d a.pd), z] (st ++ [.l xs])) N B C R := by
      intro a i xs x y z N B C R h1 h2 h3 h4 h5
      simp
      refine w_paths f h1 h2 (by omega) fun t => ?_
      simp
      refine lc_map (fun d => match d with
        | .tuple ds => .tuple (.int (i : Int) :: ds)
        | d => d) (fun d hd => ?_) (by rw [List.length_map, Pol.paths_len, szl]; omega) ?_
      · obtain ⟨q, hq, rfl⟩ := List.mem_map.mp hd
        have := a.paths_short q hq
        simp [wipeE, paD, szl]
        omega
      · have e : ((a.paths.map paD).map fun d => match d with
          | .tuple ds => PyData.tuple (.int (i : Int) :: ds)
          | d => d) = (a.paths.map (i :: ·)).map paD := by
          rw [List.map_map, List.map_map]; rfl
        rw [e]
        have hl : xs.length + ((a.paths.map (i :: ·)).map paD).length ≤ sizeLine := by
          rw [List.length_map, List.length_map, Pol.paths_len, szl]; omega
        simp only [gr0, tq1, WO_some, fExt, itemsD, if_pos hl]
        rw [List.set_append_right _ _ (Nat.le_refl _), Nat.sub_self]
        exact h5 _ _
    refine ⟨rfl, ?_⟩
    refine seq_cut (fun ρ s => ρ = [some (.d p.pd), some (.c st.length), none, none, none] ∧ s = st ++ [.l [paD []]]) (by simp [szl, paD]) ?_
    rintro ρ s ⟨rfl, rfl⟩
    refine seq_cut (fun ρ s => (∃ x y, ρ = [some (.d p.pd), some (.c st.length), x, y, none]) ∧ s = st ++ [.l (p.paths.map paD)]) ?_ ?_
    · simp
      refine w_inner ?_
      have e0 : ∀ (x : Cl), (st ++ [x]).take (st.length + 1) = st ++ [x] := fun x => tq1 st x []
      cases p with
      | call l g b hh => simp [Pol.inn, enumF, e0, Pol.paths]; rw [forGo_n]; exact ⟨⟨_, _, rfl⟩, rfl⟩
      | wait n => simp [Pol.inn, enumF, e0, Pol.paths]; rw [forGo_n]; exact ⟨⟨_, _, rfl⟩, rfl⟩
      | retry ps a =>
        simp [Pol.depth, Pol.size] at hf hs hd
        simp [Pol.inn, enumF, e0]
        rw [forGo_c]
        simp only [W_gTp, W_gCons, W_gNm, W_gNil, List.set, List.length_cons, List.length_nil, true_and]
        refine one (i := 0) (x := none) (y := none) (by omega) (by omega) (by omega) (by simp) fun x y => ?_
        rw [forGo_n]
        exact ⟨⟨_, _, rfl⟩, by simp [Pol.paths]⟩
      | tmo n a =>
        simp [Pol.depth, Pol.size] at hf hs hd
        simp [Pol.inn, enumF, e0]
        rw [forGo_c]
        simp only [W_gTp, W_gCons, W_gNm, W_gNil, List.set, List.length_cons, List.length_nil, true_and]
        refine one (i := 0) (x := none) (y := none) (by omega) (by omega) (by omega) (by simp) fun x y => ?_
        rw [forGo_n]
        exact ⟨⟨_, _, rfl⟩, by simp [Pol.paths]⟩
      | two k a b =>
        simp [Pol.depth, Pol.size] at hf hs hd
        simp [Pol.inn, enumF, e0]
        rw [forGo_c]
        simp only [W_gTp, W_gCons, W_gNm, W_gNil, List.set, List.length_cons, List.length_nil, true_and]
        refine one (i := 0) (x := none) (y := none) (by omega) (by omega) (by omega) (by simp) fun x y => ?_
        rw [forGo_c]
        simp only [W_gTp, W_gCons, W_gNm, W_gNil, List.set, List.length_cons, List.length_nil, true_and]
        refine one (i := 1) (x := none) (y := none) (by omega) (by omega) (by omega) (by simp [Pol.paths_len]; omega) fun x y => ?_
        rw [forGo_n]
        exact ⟨⟨_, _, rfl⟩, by simp [Pol.paths]⟩
      | num k n a b =>
        simp [Pol.depth, Pol.size] at hf hs hd
        simp [Pol.inn, enumF, e0]
        rw [forGo_c]
        simp only [W_gTp, W_gCons, W_gNm, W_gNil, List.set, List.length_cons, List.length_nil, true_and]
        refine one (i := 0) (x := none) (y := none) (by omega) (by omega) (by omega) (by simp) fun x y => ?_
        rw [forGo_c]
        simp only [W_gTp, W_gCons, W_gNm, W_gNil, List.set, List.length_cons, List.length_nil, true_and]
        refine one (i := 1) (x := none) (y := none) (by omega) (by omega) (by omega) (by simp [Pol.paths_len]; omega) fun x y => ?_
        rw [forGo_n]
        exact ⟨⟨_, _, rfl⟩, by simp [Pol.paths]⟩
    · rintro ρ s ⟨⟨x, y, rfl⟩, rfl⟩
      simp
      exact h _
theorem w_all_paths : ∀ (f : Nat) {p : Pol} {st : Sto} {P : Rv → Sto → Prop}, p.depth ≤ f → p.size ≤ 1000 → p.depth ≤ 100 → P (.c st.length) (st ++ [.l (p.paths.map paD)]) → WVe noE (semS_all_paths f [.d p.pd] st) P
  | 0, p, _, _, h, _, _, _ => by have : 1 ≤ p.depth := by cases p <;> simp [Pol.depth] <;> omega
                                 omega
  | f + 1, p, st, P, hf, hs, hd, h => by
    show WVe noE (bodyF 5 1 (sbS_all_paths (semS_all_paths f)) _ _) P
    unfold sbS_all_paths
    rw [W_body]
    have one : ∀ {a : Pol} {i : Nat} {xs : List PyData} {x y z : Option Vl} {N B C : En → Sto → Prop} {R : Rv → Sto → Prop}, a.depth ≤ f → a.size ≤ 1000 → a.depth ≤ 99 → xs.length ≤ 2000 →
        (∀ x y, N [some (.d p.pd), some (.c st.length), x, y, z] (st ++ [.l (xs ++ (a.paths.map (i :: ·)).map paD)])) →
        WSe noE (sExp (mExt (mN 1) (mLc (iOf (mCall (semS_all_paths f) (aCons (mV (mN 3)) aNil))) (gNm 4) ttY (mBin fAdd (mTup (aCons (mV (mN 2)) aNil)) (mN 4)) [4])) [some (.d p.pd), some (.c st.length), some (.d (.int (i : Int))), some (.d a.pd), z] (st ++ [.l xs])) N B C R := by
      intro a i xs x y z N B C R h1 h2 h3 h4 h5
      simp
      refine w_all_paths f h1 h2 (by omega) ?_
      simp
      refine lc_map (fun d => match d with
        | .tuple ds => .tuple (.int (i : Int) :: ds)
        | d => d) (fun d hd => ?_) (by rw [List.length_map, Pol.paths_len, szl]; omega) ?_
      · obtain ⟨q, hq, rfl⟩ := List.mem_map.mp hd
        have := a.paths_short q hq
        simp [wipeE, paD, szl]
        omega
      · have e : ((a.paths.map paD).map fun d => match d with
          | .tuple ds => PyData.tuple (.int (i : Int) :: ds)
          | d => d) = (a.paths.map (i :: ·)).map paD := by
          rw [List.map_map, List.map_map]; rfl
        rw [e]
        have hl : xs.length + ((a.paths.map (i :: ·)).map paD).length ≤ sizeLine := by
          rw [List.length_map, List.length_map, Pol.paths_len, szl]; omega
        simp only [gr0, tq1, WO_some, fExt, itemsD, if_pos hl]
        rw [List.set_append_right _ _ (Nat.le_refl _), Nat.sub_self]
        exact h5 _ _
    refine ⟨rfl, ?_⟩
    refine seq_cut (fun ρ s => ρ = [some (.d p.pd), some (.c st.length), none, none, none] ∧ s = st ++ [.l [paD []]]) (by simp [szl, paD]) ?_
    rintro ρ s ⟨rfl, rfl⟩
    refine seq_cut (fun ρ s => (∃ x y, ρ = [some (.d p.pd), some (.c st.length), x, y, none]) ∧ s = st ++ [.l (p.paths.map paD)]) ?_ ?_
    · simp
      refine wv_E (w_linner ?_)
      have e0 : ∀ (x : Cl), (st ++ [x]).take (st.length + 1) = st ++ [x] := fun x => tq1 st x []
      cases p with
      | call l g b hh => simp [Pol.inn, enumF, e0, Pol.paths]; rw [forGo_n]; exact ⟨⟨_, _, rfl⟩, rfl⟩
      | wait n => simp [Pol.inn, enumF, e0, Pol.paths]; rw [forGo_n]; exact ⟨⟨_, _, rfl⟩, rfl⟩
      | retry ps a =>
        simp [Pol.depth, Pol.size] at hf hs hd
        simp [Pol.inn, enumF, e0]
        rw [forGo_c]
        simp only [W_gTp, W_gCons, W_gNm, W_gNil, List.set, List.length_cons, List.length_nil, true_and]
        refine one (i := 0) (x := none) (y := none) (by omega) (by omega) (by omega) (by simp) fun x y => ?_
        rw [forGo_n]
        exact ⟨⟨_, _, rfl⟩, by simp [Pol.paths]⟩
      | tmo n a =>
        simp [Pol.depth, Pol.size] at hf hs hd
        simp [Pol.inn, enumF, e0]
        rw [forGo_c]
        simp only [W_gTp, W_gCons, W_gNm, W_gNil, List.set, List.length_cons, List.length_nil, true_and]
        refine one (i := 0) (x := none) (y := none) (by omega) (by omega) (by omega) (by simp) fun x y => ?_
        rw [forGo_n]
        exact ⟨⟨_, _, rfl⟩, by simp [Pol.paths]⟩
      | two k a b =>
        simp [Pol.depth, Pol.size] at hf hs hd
        simp [Pol.inn, enumF, e0]
        rw [forGo_c]
        simp only [W_gTp, W_gCons, W_gNm, W_gNil, List.set, List.length_cons, List.length_nil, true_and]
        refine one (i := 0) (x := none) (y := none) (by omega) (by omega) (by omega) (by simp) fun x y => ?_
        rw [forGo_c]
        simp only [W_gTp, W_gCons, W_gNm, W_gNil, List.set, List.length_cons, List.length_nil, true_and]
        refine one (i := 1) (x := none) (y := none) (by omega) (by omega) (by omega) (by simp [Pol.paths_len]; omega) fun x y => ?_
        rw [forGo_n]
        exact ⟨⟨_, _, rfl⟩, by simp [Pol.paths]⟩
      | num k n a b =>
        simp [Pol.depth, Pol.size] at hf hs hd
        simp [Pol.inn, enumF, e0]
        rw [forGo_c]
        simp only [W_gTp, W_gCons, W_gNm, W_gNil, List.set, List.length_cons, List.length_nil, true_and]
        refine one (i := 0) (x := none) (y := none) (by omega) (by omega) (by omega) (by simp) fun x y => ?_
        rw [forGo_c]
        simp only [W_gTp, W_gCons, W_gNm, W_gNil, List.set, List.length_cons, List.length_nil, true_and]
        refine one (i := 1) (x := none) (y := none) (by omega) (by omega) (by omega) (by simp [Pol.paths_len]; omega) fun x y => ?_
        rw [forGo_n]
        exact ⟨⟨_, _, rfl⟩, by simp [Pol.paths]⟩
    · rintro ρ s ⟨⟨x, y, rfl⟩, rfl⟩
      simp
      exact h
end
end Cp
/-! Ps2: parts at paths. -/
namespace Cp
open PySem L2
section
variable {st : Sto} {P : Rv → Sto → Prop} {E : Er → Sto → Prop}
def stepP (p : Pol) (d : PyData) : Option Pol := match d with
  | .int i => if 0 ≤ i ∧ i < p.inn.length then p.inn[i.toNat]? else none
  | _ => none
def walkP : Pol → List PyData → Option Pol
  | p, [] => some p
  | p, d :: ds => match stepP p d with
    | some q => walkP q ds
    | none => none
def pathP (p : Pol) : PyData → Option Pol
  | .tuple ds => walkP p ds
  | _ => none
def idxB (d : PyData) (n : Nat) : Bool := match d with
  | .int i => decide (0 ≤ i) && decide (i < (n : Int))
  | _ => false
theorem w_is_index (d : PyData) {n : Nat} (hq : isQ d = false) (h : P (.d (.bool (idxB d n))) st) : WVe noE (semS_is_index [.d d, .d (.int (n : Int))] st) P := by
  unfold semS_is_index sbS_is_index
  rw [W_body]
  cases d with
  | int i =>
    simp
    by_cases c : 0 ≤ i
    · simp [c]; simpa [idxB, c] using h
    · simp [c]; simpa [idxB, c] using h
  | dict kvs =>
    simp [hq]
    have : kitB (tyD (.dict kvs)) "int" = some false := kitB_int _
    rw [this]
    exact h
  | bool b => simp; exact h
  | none => simp; exact h
  | str b => simp; exact h
  | tuple b => simp; exact h
  | list b =>
    simp
    have : kitB (tyD (.list b)) "int" = some false := kitB_int _
    rw [this]
    exact h
theorem stepP_idx {p : Pol} {d : PyData} : (idxB d p.inn.length = true ∧ ∃ i : Nat, d = .int (i : Int) ∧ stepP p d = p.inn[i]? ∧ i < p.inn.length) ∨ (idxB d p.inn.length = false ∧ stepP p d = none) := by
  cases d with
  | int i =>
    by_cases c : 0 ≤ i ∧ i < (p.inn.length : Int)
    · refine .inl ⟨by simp [idxB, c], i.toNat, by congr 1; omega, ?_, by omega⟩
      unfold stepP; simp only; rw [if_pos c]
    · refine .inr ⟨?_, by unfold stepP; simp only; rw [if_neg c]⟩
      unfold idxB
      simp only [Bool.and_eq_false_iff, decide_eq_false_iff_not]
      omega
  | _ => exact .inr ⟨rfl, rfl⟩
theorem atI_inn {p : Pol} {i : Nat} (h : i < p.inn.length) : ∃ q, p.inn[i]? = some q ∧ atI (p.inn.map Pol.pd) (i : Int) = some q.pd := by
  refine ⟨p.inn[i], List.getElem?_eq_getElem h, ?_⟩
  rw [atI_at rfl (by rw [List.length_map]; exact h), List.getElem?_map, List.getElem?_eq_getElem h]; rfl
/-- a path is of such -/
def QPath (d : PyData) : Prop := isQ d = false ∧ ∀ ds, d = .tuple ds → ∀ x ∈ ds, isQ x = false
theorem isT_tuple (d : PyData) : isT "tuple" d = match d with
    | .tuple _ => true
    | _ => false := by cases d <;> simp [isT, tyD]
theorem w_check_part {p : Pol} (d : PyData) (hq : QPath d) (h : ∀ q, pathP p d = some q → P (.d .none) st) (he : pathP p d = none → E ⟨Str.ofString "NoPart", some (Str.ofString "value", d)⟩ st) : WVe E (semS_check_part [.d p.pd, .d d] st) P := by
  unfold semS_check_part sbS_check_part
  rw [W_body]
  refine ⟨rfl, ?_⟩
  have hk := kitB_tuple d
  rw [isT_tuple] at hk
  cases d with
  | tuple ds =>
    refine seq_cut (fun ρ s => ρ = [some (.d p.pd), some (.d (.tuple ds)), none, none, none] ∧ st = s) (by simp) ?_
    rintro ρ s ⟨rfl, rfl⟩
    refine seq_cut (fun ρ s' => ρ = [some (.d p.pd), some (.d (.tuple ds)), some (.d p.pd), none, none] ∧ st = s') (by simp) ?_
    rintro ρ s' ⟨rfl, rfl⟩
    rw [W_sFor]
    simp
    have key : ∀ (r all : List PyData) (q : Pol) (x y : Option Vl), (∀ z ∈ r, isQ z = false) → (∀ o, walkP q r = some o → P (.d .none) st) → (walkP q r = none → E ⟨Str.ofString "NoPart", some (Str.ofString "value", .tuple ds)⟩ st) →
        WSe E (forGo (gNm 3) (sSeq (sAsg (gNm 4) (mV (mCall semP_inner (aCons (mV (mN 2)) aNil)))) (sSeq (sIf (bNot (mTru (mCall semS_is_index (aCons (mV (mN 3)) (aCons (mV (mCal (gLen) (aCons (mV (mN 4)) aNil))) aNil))))) (sRaise1 "NoPart" "value" (aCons (mV (mN 1)) aNil)) sNil) (sAsg (gNm 2) (mV (mBin fIx (mN 4) (mN 3)))))) none all r
          [some (.d p.pd), some (.d (.tuple ds)), some (.d q.pd), x, y] st) (fun _ s => P (.d .none) s) (fun _ _ => False) (fun _ _ => False) P := by
      intro r
      induction r with
      | nil => intro all q x y _ h1 _; rw [forGo_n]; exact h1 q rfl
      | cons d r ih =>
        intro all q x y hz h1 h2
        rw [forGo_c]
        simp
        refine wv_E (w_inner ?_)
        simp
        have e : ((q.inn.map Pol.pd).length : Int) = ((q.inn.length : Nat) : Int) := by rw [List.length_map]
        refine wv_E (w_is_index (n := q.inn.length) d (hz d (List.mem_cons_self ..)) ?_)
        rcases stepP_idx (p := q) (d := d) with ⟨g1, i, rfl, g2, g3⟩ | ⟨g1, g2⟩
        · rw [g1]
          obtain ⟨o, g4, g5⟩ := atI_inn g3
          simp [g5]
          refine ih _ o _ _ (fun z hz' => hz z (List.mem_cons_of_mem _ hz')) (fun o' ho => h1 o' ?_) (fun ho => h2 ?_)
          · show (match stepP q (.int (i : Int)) with | some q => walkP q r | none => none) = _
            rw [g2, g4]; exact ho
          · show (match stepP q (.int (i : Int)) with | some q => walkP q r | none => none) = _
            rw [g2, g4]; exact ho
        · rw [g1]
          simp
          refine h2 ?_
          show (match stepP q d with | some q => walkP q r | none => none) = _
          rw [g2]
    exact key ds _ p _ _ (hq.2 ds rfl) h he
  | _ =>
    simp [hq.1, hk]
    exact he rfl
theorem w_part_at {p : Pol} (d : PyData) (hq : QPath d) (h : ∀ q, pathP p d = some q → P (.d q.pd) st) (he : pathP p d = none → E ⟨Str.ofString "NoPart", some (Str.ofString "value", d)⟩ st) : WVe E (semS_part_at [.d p.pd, .d d] st) P := by
  unfold semS_part_at sbS_part_at
  rw [W_body]
  refine ⟨rfl, ?_⟩
  cases e0 : pathP p d with
  | none =>
    rw [W_sSeq]
    simp
    exact w_check_part d hq (fun q e => by rw [e0] at e; cases e) (fun _ => by simpa using he e0)
  | some q =>
    have hfin := h q e0
    refine seq_cut (fun ρ s => ρ = [some (.d p.pd), some (.d d), none, none] ∧ st = s) ?_ ?_
    · simp
      exact w_check_part d hq (fun q _ => by simp) (fun e => by rw [e0] at e; cases e)
    rintro ρ s ⟨rfl, rfl⟩
    obtain ⟨ds, rfl⟩ : ∃ ds, d = .tuple ds := by cases d <;> first | cases e0 | exact ⟨_, rfl⟩
    refine seq_cut (fun ρ s' => ρ = [some (.d p.pd), some (.d (.tuple ds)), some (.d p.pd), none] ∧ st = s') (by simp) ?_
    rintro ρ s' ⟨rfl, rfl⟩
    refine seq_cut (fun ρ s' => (∃ x, ρ = [some (.d p.pd), some (.d (.tuple ds)), some (.d q.pd), x]) ∧ st = s') ?_ ?_
    · rw [W_sFor]
      simp
      have key : ∀ (r all : List PyData) (o : Pol) (x : Option Vl), walkP o r = some q →
          WSe E (forGo (gNm 3) (sAsg (gNm 2) (mV (mBin fIx (mCall semP_inner (aCons (mV (mN 2)) aNil)) (mN 3)))) none all r [some (.d p.pd), some (.d (.tuple ds)), some (.d o.pd), x] st)
            (fun ρ s' => (∃ x, ρ = [some (.d p.pd), some (.d (.tuple ds)), some (.d q.pd), x]) ∧ st = s') (fun _ _ => False) (fun _ _ => False) P := by
        intro r
        induction r with
        | nil => intro all o x hw; cases hw; rw [forGo_n]; exact ⟨⟨_, rfl⟩, rfl⟩
        | cons d r ih =>
          intro all o x hw
          rw [forGo_c]
          simp
          refine wv_E (w_inner ?_)
          rcases stepP_idx (p := o) (d := d) with ⟨_, i, rfl, g2, g3⟩ | ⟨_, g2⟩
          · obtain ⟨o', g4, g5⟩ := atI_inn g3
            simp [g5]
            refine ih _ o' _ ?_
            have hw : (match stepP o (.int (i : Int)) with | some q => walkP q r | none => none) = some q := hw
            rw [g2, g4] at hw; exact hw
          · exfalso
            have hw : (match stepP o d with | some q => walkP q r | none => none) = some q := hw
            rw [g2] at hw; cases hw
      exact key ds _ p _ e0
    · rintro ρ s' ⟨⟨x, rfl⟩, rfl⟩
      simp
      exact hfin
theorem w_part {p q : Pol} {ds : List PyData} (hw : walkP p ds = some q) (h : P (.d q.pd) st) : WVe E (semS_part [.d p.pd, .d (.tuple ds)] st) P := by
  unfold semS_part sbS_part
  rw [W_body]
  refine ⟨rfl, ?_⟩
  refine seq_cut (fun ρ s' => (∃ x, ρ = [some (.d q.pd), some (.d (.tuple ds)), x]) ∧ st = s') ?_ ?_
  · rw [W_sFor]
    simp
    have key : ∀ (r all : List PyData) (o : Pol) (x : Option Vl), walkP o r = some q →
        WSe E (forGo (gNm 2) (sAsg (gNm 0) (mV (mBin fIx (mCall semP_linner (aCons (mV (mN 0)) aNil)) (mN 2)))) none all r [some (.d o.pd), some (.d (.tuple ds)), x] st)
          (fun ρ s' => (∃ x, ρ = [some (.d q.pd), some (.d (.tuple ds)), x]) ∧ st = s') (fun _ _ => False) (fun _ _ => False) P := by
      intro r
      induction r with
      | nil => intro all o x hw; cases hw; rw [forGo_n]; exact ⟨⟨_, rfl⟩, rfl⟩
      | cons d r ih =>
        intro all o x hw
        rw [forGo_c]
        simp
        refine wv_E (w_linner ?_)
        rcases stepP_idx (p := o) (d := d) with ⟨_, i, rfl, g2, g3⟩ | ⟨_, g2⟩
        · obtain ⟨o', g4, g5⟩ := atI_inn g3
          simp [g5]
          refine ih _ o' _ ?_
          have hw : (match stepP o (.int (i : Int)) with | some q => walkP q r | none => none) = some q := hw
          rw [g2, g4] at hw; exact hw
        · exfalso
          have hw : (match stepP o d with | some q => walkP q r | none => none) = some q := hw
          rw [g2] at hw; cases hw
    exact key ds _ p _ hw
  · rintro ρ s' ⟨⟨x, rfl⟩, rfl⟩
    simp
    exact h
/-! ### parts put in place -/
def Pol.hd : Pol → List PyData
  | .call l g b h => [.str "call", .str l, spD g, spD b, .bool h]
  | .wait n => [.str "wait", .int n]
  | .two k _ _ => [.str k.s]
  | .num k n _ _ => [.str k.s, nuD n]
  | .retry ps _ => [.str "retry", .tuple (ps.map PyData.int)]
  | .tmo n _ => [.str "timeout", nuD n]
theorem pd_hd (p : Pol) : p.pd = .tuple (p.hd ++ p.inn.map Pol.pd) := by cases p <;> rfl
def Pol.putX : Pol → List Nat → PyData → PyData
  | _, [], x => x
  | p, i :: q, x => .tuple (p.hd ++ (p.inn.map Pol.pd).set i (match p.inn[i]? with
    | some r => r.putX q x
    | none => .none))
theorem cutT {ds : List PyData} {a : Nat} (h : a ≤ ds.length) : cutD ds none (some (a : Int)) = ds.take a := by
  unfold cutD
  have : HT.sIx ds.length ds.length (some (a : Int)) = a := by
    unfold HT.sIx
    simp
    rw [if_neg (by omega)]; omega
  rw [this]
  show (ds.drop 0).take (a - 0) = _
  simp
theorem w_with_inner {p : Pol} {v : Vl} {xs : List PyData} (hv : view st v = some (.list xs)) (hl : xs.length = p.inn.length) (h : P (.d (.tuple (p.hd ++ xs))) st) : WVe noE (semS_with_inner [.d p.pd, v] st) P := by
  unfold semS_with_inner sbS_with_inner
  rw [W_body]
  have hg : gLen st [v] = some (.d (.int xs.length)) := by
    cases v with
    | d d => cases hv; rfl
    | c i => rw [gLen_c, hv]; rfl
    | s _ => cases hv
    | o _ => cases hv
  have ht : g1 fTuple st [v] = some (.d (.tuple xs)) := by
    cases v with
    | d d => cases hv; rfl
    | c i => rw [g1_c, hv]; rfl
    | s _ => cases hv
    | o _ => cases hv
  have h2 : p.inn.length ≤ 2 := by cases p <;> simp [Pol.inn]
  have h3 : p.hd.length ≤ 5 := by cases p <;> simp [Pol.hd]
  rw [pd_hd]
  have e1 : ((p.hd.length : Int) + (p.inn.length : Int) - (xs.length : Int)) = ((p.hd.length : Nat) : Int) := by omega
  simp [hg, ht, e1]
  rw [cutT (by simp), List.take_left' rfl]
  simp [szl]
  exact ⟨by omega, h⟩
def Pol.at : Pol → List Nat → Option Pol
  | p, [] => some p
  | p, i :: q => match p.inn[i]? with
    | some r => r.at q
    | none => none
theorem walk_path : ∀ {q : List Nat} {p r : Pol}, p.at q = some r → walkP p (q.map fun (n : Nat) => .int (n : Int)) = some r
  | [], _, _, h => h
  | i :: q, p, r, h => by
    have h : (match p.inn[i]? with | some r => r.at q | none => none) = some r := h
    have hs : stepP p (.int (i : Int)) = p.inn[i]? := by
      unfold stepP
      simp only
      by_cases c : i < p.inn.length
      · rw [if_pos ⟨by omega, by omega⟩]; rfl
      · rw [if_neg (by omega), List.getElem?_eq_none (by omega)]
    show (match stepP p (.int (i : Int)) with | some q' => walkP q' _ | none => none) = some r
    rw [hs]
    cases q1 : p.inn[i]? with
    | none => rw [q1] at h; cases h
    | some o => rw [q1] at h; exact walk_path h
theorem path_walk : ∀ {ds : List PyData} {p r : Pol}, walkP p ds = some r → ∃ q : List Nat, ds = q.map (fun (n : Nat) => .int (n : Int)) ∧ p.at q = some r
  | [], _, _, h => ⟨[], rfl, h⟩
  | d :: ds, p, r, h => by
    have h : (match stepP p d with | some q' => walkP q' ds | none => none) = some r := h
    rcases stepP_idx (p := p) (d := d) with ⟨_, i, rfl, g2, g3⟩ | ⟨_, g2⟩
    · rw [g2, List.getElem?_eq_getElem g3] at h
      obtain ⟨q, e1, e2⟩ := path_walk h
      refine ⟨i :: q, by rw [e1]; rfl, ?_⟩
      show (match p.inn[i]? with | some r => r.at q | none => none) = some r
      rw [List.getElem?_eq_getElem g3]; exact e2
    · rw [g2] at h; cases h
theorem at_depth : ∀ {q : List Nat} {p r : Pol}, p.at q = some r → q.length + r.depth ≤ p.depth
  | [], _, _, h => by cases h; simp
  | i :: q, p, r, h => by
    have h : (match p.inn[i]? with | some r => r.at q | none => none) = some r := h
    cases q1 : p.inn[i]? with
    | none => rw [q1] at h; cases h
    | some o =>
      rw [q1] at h
      have h2 := at_depth h
      have h3 : o ∈ p.inn := List.mem_of_getElem? q1
      have h4 : o.depth + 1 ≤ p.depth := by
        cases p <;> simp [Pol.inn] at h3
        · rcases h3 with rfl | rfl <;> simp [Pol.depth] <;> omega
        · rcases h3 with rfl | rfl <;> simp [Pol.depth] <;> omega
        · subst h3; simp [Pol.depth]; omega
        · subst h3; simp [Pol.depth]; omega
      rw [List.length_cons]; omega
theorem at_small : ∀ {q : List Nat} {p r : Pol}, p.at q = some r → ∀ i ∈ q, i < 2
  | [], _, _, _, i, hi => by cases hi
  | j :: q, p, r, h, i, hi => by
    have h : (match p.inn[j]? with | some r => r.at q | none => none) = some r := h
    cases q1 : p.inn[j]? with
    | none => rw [q1] at h; cases h
    | some o =>
      rw [q1] at h
      rcases List.mem_cons.mp hi with rfl | hi
      · have := (List.getElem?_eq_some_iff.mp q1).1
        have h2 : p.inn.length ≤ 2 := by cases p <;> simp [Pol.inn]
        omega
      · exact at_small h i hi
theorem paD_eq (q : List Nat) (hq : ∀ i ∈ q, i < 1000) : gEq (paD q) (.tuple []) = some q.isEmpty := by
  have := shp_pol (ds := q.map fun (n : Nat) => .int (n : Int)) fun d hd => by
    obtain ⟨n, hn, rfl⟩ := List.mem_map.mp hd
    have := hq n hn
    exact ⟨log_small (k := 40) (by omega) (by decide), Nat.zero_le _⟩
  unfold paD
  rw [this]
  cases q <;> rfl
theorem cutD1 (d : PyData) (ds : List PyData) : cutD (d :: ds) (some 1) none = ds := by
  unfold cutD
  have : HT.sIx (d :: ds).length 0 (some 1) = 1 := by
    rw [show (1 : Int) = ((1 : Nat) : Int) from rfl, HT.sIx_nat]
    simp
  rw [this]
  show ((d :: ds).drop 1).take ((d :: ds).length - 1) = ds
  simp
theorem w_put_at : ∀ (f : Nat) {q : List Nat} {p r : Pol} {x : PyData} {st : Sto} {P : Rv → Sto → Prop}, q.length < f → p.at q = some r → (∀ t, P (.d (p.putX q x)) (st ++ t)) → WVe noE (semS_put_at f [.d p.pd, .d (paD q), .d x] st) P
  | 0, _, _, _, _, _, _, h, _, _ => absurd h (Nat.not_lt_zero _)
  | f + 1, q, p, r, x, st, P, hf, ha, h => by
    show WVe noE (bodyF 4 3 (sbS_put_at (semS_put_at f)) _ _) P
    unfold sbS_put_at
    rw [W_body]
    have e := paD_eq q fun i hi => Nat.lt_of_lt_of_le (at_small ha i hi) (by decide)
    cases q with
    | nil =>
      simp [e]
      have := h []
      simpa [Pol.putX] using this
    | cons i q =>
      have ha2 : (match p.inn[i]? with | some r => r.at q | none => none) = some r := ha
      cases q1 : p.inn[i]? with
      | none => rw [q1] at ha2; cases ha2
      | some o =>
        rw [q1] at ha2
        have hi : i < p.inn.length := (List.getElem?_eq_some_iff.mp q1).1
        have hl : p.inn.length ≤ 2 := by cases p <;> simp [Pol.inn]
        obtain ⟨o', e1, e2⟩ := atI_inn hi
        rw [q1] at e1; cases e1
        have e3 : ixN p.inn.length (i : Int) = some i := by
          unfold ixN
          rw [if_pos (by omega), if_pos (by omega)]; rfl
        have hdo := at_depth ha2
        simp [e]
        refine w_inner ?_
        simp [paD, e2, cutD1]
        refine w_put_at f (q := q) (r := r) (by simp at hf; omega) ha2 fun t => ?_
        rw [List.append_assoc]
        simp [e3]
        refine w_with_inner (xs := (p.inn.map Pol.pd).set i (o.putX q x)) ?_ (by simp) ?_
        · simp
        · have : p.putX (i :: q) x = .tuple (p.hd ++ (p.inn.map Pol.pd).set i (o.putX q x)) := by
            show PyData.tuple (p.hd ++ (p.inn.map Pol.pd).set i (match p.inn[i]? with | some r => r.putX q x | none => .none)) = _
            rw [q1]
          rw [← this]
          simp
          exact h _
end
end Cp
/-! Ps3: is_policy of policies. -/
namespace Cp
open PySem L2
section
variable {st : Sto} {P : Rv → Sto → Prop} {E : Er → Sto → Prop} {ρ : En} {ma : Ev} {PE : Rv → Sto → Prop}
@[simp] theorem W_mPop : WVe E (mPop ma ρ st) PE = WVe E (ma ρ st) fun r s => (match frz r with
    | .c k => (match s[k]? with
      | some (.l xs) => (match xs[xs.length - 1]? with
        | some d => PE (.d d) (s.set k (.l xs.dropLast))
        | none => False)
      | _ => False)
    | _ => False) := by
  unfold mPop; rw [WV_bind, W_mV]
  congr 1; funext r s
  generalize frz r = v
  cases v with
  | c k =>
    simp only [lstAt_c]
    cases s[k]? with
    | none => rfl
    | some c =>
      cases c with
      | m _ => rfl
      | l xs =>
        simp only
        cases xs[xs.length - 1]? <;> rfl
  | _ => rfl
theorem gNe_lnil {ds : List PyData} (h : ∀ d ∈ ds, okS d ∧ d.depth ≤ 60) : gNe (.list ds) (.list []) = some (!ds.isEmpty) := by
  rw [gNe_at (a := .list ds) (b := .list []) (okSs_of fun d hd => (h d hd).1) trivial (by
    show PyData.depthAll ds + 1 ≤ 64
    have := depthAll_le (B := 60) (ds := ds) fun d hd => (h d hd).2
    omega) (by decide)]
  cases ds <;> rfl
def seenD (xs : List Str) : List (PyData × PyData) := xs.map fun x => (.str x, .bool true)
theorem seen_flat (xs : List Str) : flK (seenD xs) = true := by
  unfold flK seenD
  rw [List.all_map]
  exact List.all_eq_true.mpr fun _ _ => rfl
theorem keyE_str (a b : Str) : keyE (.str a) (.str b) = decide (a = b) := by
  unfold keyE keyN
  by_cases h : a = b
  · subst h; simp
  · simp [h]
theorem seen_look (l : Str) : ∀ xs : List Str, l ∉ xs → lookD (seenD xs) (.str l) = none
  | [], _ => rfl
  | x :: xs, h => by
    show (if keyE (.str x) (.str l) = true then _ else lookD (seenD xs) (.str l)) = none
    rw [keyE_str, if_neg (by simpa using fun e => h (by rw [e]; exact List.mem_cons_self ..))]
    exact seen_look l xs fun hx => h (List.mem_cons_of_mem _ hx)
theorem seen_put (l : Str) (xs : List Str) (h : l ∉ xs) : putD (seenD xs) (.str l) (.bool true) = seenD (xs ++ [l]) := by
  unfold putD
  rw [if_neg]
  · unfold seenD; rw [List.map_append]; rfl
  · rw [List.any_eq_true]
    rintro ⟨p, hp, e⟩
    unfold seenD at hp
    obtain ⟨x, hx, rfl⟩ := List.mem_map.mp hp
    rw [keyE_str] at e
    exact h (by rw [← of_decide_eq_true e]; exact hx)
theorem seen_ok (l : Str) (xs : List Str) : okK (seenD xs) (.str l) = true := by
  unfold okK
  rw [seen_flat]; rfl
theorem seen_len (xs : List Str) : (seenD xs).length = xs.length := List.length_map _
/-- a policy that is one -/
structure Pol.Valid (p : Pol) : Prop where
  nd : p.All Pol.Node
  sz : p.size ≤ 40
  dp : p.depth ≤ 20
  lb : p.labs.Nodup
abbrev Stk := List (Pol × Nat)
def stkD (s : Stk) : List PyData := s.map fun x => .tuple [x.1.pd, .int (x.2 : Int)]
def stkS (s : Stk) : Nat := (s.map fun x => x.1.size).sum
theorem stkS_app (a b : Stk) : stkS (a ++ b) = stkS a + stkS b := by unfold stkS; rw [List.map_append, List.sum_append]
def innS (p : Pol) (d : Nat) : Stk := p.inn.map fun q => (q, d)
theorem inn_size (p : Pol) (d : Nat) : stkS (innS p d) + 1 = p.size := by
  cases p <;> simp [innS, stkS, Pol.inn, Pol.size] <;> omega
theorem inn_labs (p : Pol) (d : Nat) (h : p.kind ≠ "call") : (innS p d).flatMap (fun x => x.1.labs) = p.labs := by
  cases p <;> simp [innS, Pol.inn, Pol.labs, Pol.kind] at h ⊢
theorem inn_dp {p q : Pol} (h : q ∈ p.inn) : q.depth + 1 ≤ p.depth := by
  cases p <;> simp [Pol.inn] at h
  · rcases h with rfl | rfl <;> simp [Pol.depth] <;> omega
  · rcases h with rfl | rfl <;> simp [Pol.depth] <;> omega
  · subst h; simp [Pol.depth]; omega
  · subst h; simp [Pol.depth]; omega
theorem dp_pos (p : Pol) : 1 ≤ p.depth := by cases p <;> simp [Pol.depth] <;> omega
/-- the walk's state -/
def Iip (d : PyData) (st : Sto) (tot : Nat) (k : Nat) (ρ : En) (s : Sto) : Prop := ∃ (stk : Stk) (seen : List Str) (many : Nat) (x4 x5 x6 : Option Vl),
  ρ = [some (.d d), some (.c st.length), some (.c (st.length + 1)), some (.d (.int (many : Int))), x4, x5, x6] ∧ s = st ++ [.l (stkD stk), .m (seenD seen)] ∧ k = stkS stk ∧ many + stkS stk ≤ tot ∧ tot ≤ 40 ∧
  (∀ x ∈ stk, x.1.All Pol.Node ∧ x.2 + x.1.depth ≤ 21) ∧ (stk.flatMap (fun x => x.1.labs) ++ seen).Nodup ∧ seen.length ≤ many ∧ stk.length ≤ stkS stk
theorem stk_ok {stk : Stk} (h : ∀ x ∈ stk, x.1.All Pol.Node ∧ x.2 + x.1.depth ≤ 21) : ∀ d ∈ stkD stk, okS d ∧ d.depth ≤ 60 := fun d hd => by
  unfold stkD at hd
  obtain ⟨x, hx, rfl⟩ := List.mem_map.mp hd
  obtain ⟨h1, h2⟩ := h x hx
  refine ⟨⟨Pol.okS h1, log_small (k := 40) (by omega) (by decide), trivial⟩, ?_⟩
  show PyData.depthAll [x.1.pd, .int _] + 1 ≤ 60
  have := x.1.pd_depth
  simp [PyData.depthAll, PyData.depth]
  omega
theorem size_ge (s : Stk) : s.length ≤ stkS s := by
  induction s with
  | nil => exact Nat.le_refl _
  | cons x s ih =>
    have := Pol.size_pos x.1
    unfold stkS at ih ⊢
    rw [List.map_cons, List.sum_cons, List.length_cons]
    omega
@[simp] theorem tq2 (s : Sto) (x y : Cl) (t : Sto) : (s ++ (x :: y :: t)).take (s.length + 2) = s ++ [x, y] := by
  rw [List.take_append, List.take_of_length_le (by omega), Nat.add_sub_cancel_left]; rfl
theorem whGo_two {c : En → Sto → Res Bool} {b : Sv} {N B C : En → Sto → Prop} {R : Rv → Sto → Prop} (I : Nat → En → Sto → Prop) {n m : Nat} (hnm : m < n) (h0 : I m ρ st)
    (hc : ∀ k ρ s, I k ρ s → WVe E (c ρ s) fun t s1 => s1 = s ∧ (t = true → 0 < k) ∧ (t = false → N ρ s)) (hb : ∀ k ρ s, I (k + 1) ρ s → WSe E (b ρ s) (I k) N (I k) R) : WSe E (whGo c b n ρ st) N B C R :=
  whGo_by I n m hnm h0 fun k ρ s hI => WV_mono (hc k ρ s hI) fun t s1 ⟨e, h1, h2⟩ => by
    subst e
    cases t with
    | true =>
      rw [if_pos rfl]
      have := h1 rfl
      obtain ⟨j, rfl⟩ : ∃ j, k = j + 1 := ⟨k - 1, by omega⟩
      exact ⟨j, rfl, hb j ρ s1 hI⟩
    | false => rw [if_neg (by decide)]; exact h2 rfl
theorem w_is_policy {p : Pol} (hv : p.Valid) (h : ∀ t, P (.d (.bool true)) (st ++ t)) : WVe noE (semS_is_policy [.d p.pd] st) P := by
  unfold semS_is_policy sbS_is_policy
  rw [W_body]
  refine ⟨rfl, ?_⟩
  refine seq_cut (Iip p.pd st p.size p.size) ?_ ?_
  · simp [mD0, szl]
    exact ⟨[(p, 1)], [], 0, none, none, none, by simp, by simp [stkD, seenD], by simp [stkS], by simp [stkS], hv.sz, fun x hx => by
      rw [List.mem_singleton] at hx; subst hx; have := hv.dp; exact ⟨hv.nd, by show 1 + p.depth ≤ 21; omega⟩, by simpa using hv.lb, Nat.le_refl _, by have := Pol.size_pos p; simpa [stkS] using this⟩
  intro ρ s hI
  refine seq_cut (fun ρ s => ∃ t, s = st ++ t) ?_ ?_
  · refine whGo_two (Iip p.pd st p.size) (n := 1048576) (m := p.size) (by have := hv.sz; omega) hI ?_ ?_
    · rintro k ρ s ⟨stk, seen, many, x4, x5, x6, rfl, rfl, hk, hm, h40, hall, hnd, hsl, hsz⟩
      have e1 := gNe_lnil (stk_ok hall)
      have e2 : cmp2 gNe (st ++ [Cl.l (stkD stk), .m (seenD seen)]) (.c st.length) (.d (.list [])) = some (!(stkD stk).isEmpty) := by
        rw [cmp2_of (a := .list (stkD stk)) (b := .list []) (by simp) rfl]; exact e1
      simp [e2]
      intro hne
      cases stk with
      | nil => exact absurd rfl hne
      | cons y ys => simp at hsz; omega
    · rintro k ρ s ⟨stk, seen, many, x4, x5, x6, rfl, rfl, hk, hm, h40, hall, hnd, hsl, hsz⟩
      obtain ⟨ys, y, rfl⟩ : ∃ ys y, stk = ys ++ [y] := by
        rcases List.eq_nil_or_concat stk with e | ⟨ys, y, e⟩
        · subst e; simp [stkS] at hk
        · exact ⟨ys, y, by rw [e, List.concat_eq_append]⟩
      obtain ⟨q, dp⟩ := y
      obtain ⟨hq, hdp⟩ := hall (q, dp) (by simp)
      have hq1 := dp_pos q
      have hqs := Pol.size_pos q
      have hsum : stkS (ys ++ [(q, dp)]) = stkS ys + q.size := by rw [stkS_app]; simp [stkS]
      have eD : stkD (ys ++ [(q, dp)]) = stkD ys ++ [.tuple [q.pd, .int (dp : Int)]] := by unfold stkD; rw [List.map_append]; rfl
      simp only at hq hdp
      rw [eD]
      -- part, depth = waiting.pop()
      refine seq_cut (fun ρ s => ρ = [some (.d p.pd), some (.c st.length), some (.c (st.length + 1)), some (.d (.int (many : Int))), some (.d q.pd), some (.d (.int (dp : Int))), x6] ∧ s = st ++ [.l (stkD ys), .m (seenD seen)]) ?_ ?_
      · simp
      rintro ρ s ⟨rfl, rfl⟩
      refine seq_cut (fun ρ s => ρ = [some (.d p.pd), some (.c st.length), some (.c (st.length + 1)), some (.d (.int (many + 1 : Nat))), some (.d q.pd), some (.d (.int (dp : Int))), x6] ∧ s = st ++ [.l (stkD ys), .m (seenD seen)]) ?_ ?_
      · simp
      rintro ρ s ⟨rfl, rfl⟩
      refine seq_cut (fun ρ s => ρ = [some (.d p.pd), some (.c st.length), some (.c (st.length + 1)), some (.d (.int (many + 1 : Nat))), some (.d q.pd), some (.d (.int (dp : Int))), x6] ∧ s = st ++ [.l (stkD ys), .m (seenD seen)]) ?_ ?_
      · have c1 : ¬ ((40 : Int) < (many : Int) + 1) := by omega
        have c2 : ¬ ((20 : Int) < (dp : Int)) := by omega
        simp [c1, c2]
        exact w_has_form hq (by omega) (by simp)
      rintro ρ s ⟨rfl, rfl⟩
      have hlen : (stkD ys).length ≤ 40 := by
        have := size_ge ys
        unfold stkD; rw [List.length_map]; omega
      have hin := inn_size q (dp + 1)
      have hil : q.inn.length ≤ 2 := by cases q <;> simp [Pol.inn]
      -- the last step, by what seen is then
      have fin : ∀ seen' : List Str, seen'.length ≤ many + 1 → (((ys ++ innS q (dp + 1)).flatMap fun x => x.1.labs) ++ seen').Nodup →
          WSe noE ((sExp (mExt (mN 1) (mLc (iOf (mCall semP_inner (aCons (mV (mN 4)) aNil))) (gNm 6) ttY (mTup (aCons (mV (mN 6)) (aCons (mV (mBin fAdd (mN 5) (mK (.int 1)))) aNil))) [6])))
            [some (.d p.pd), some (.c st.length), some (.c (st.length + 1)), some (.d (.int (many + 1 : Nat))), some (.d q.pd), some (.d (.int (dp : Int))), x6] (st ++ [.l (stkD ys), .m (seenD seen')]))
            (Iip p.pd st p.size k) (fun ρ s => ∃ t, s = st ++ t) (Iip p.pd st p.size k) P := by
        intro seen' hs1 hs2
        simp
        refine w_inner ?_
        simp
        refine lc_map (fun d => .tuple [d, .int ((dp + 1 : Nat) : Int)]) (fun d hd => ?_) (by rw [List.length_map, szl]; omega) ?_
        · simp [wipeE, szl]
        · have e3 : ((q.inn.map Pol.pd).map fun d => PyData.tuple [d, .int ((dp + 1 : Nat) : Int)]) = stkD (innS q (dp + 1)) := by
            unfold stkD innS
            rw [List.map_map, List.map_map]; rfl
          rw [e3]
          have hl2 : (stkD ys).length + (stkD (innS q (dp + 1))).length ≤ sizeLine := by
            unfold innS
            rw [szl]; unfold stkD; rw [List.length_map, List.length_map, List.length_map]; unfold stkD at hlen; rw [List.length_map] at hlen; omega
          simp [fExt, itemsD, hl2]
          refine ⟨ys ++ innS q (dp + 1), seen', many + 1, _, _, _, rfl, by unfold stkD; rw [List.map_append], ?_, ?_, h40, ?_, hs2, hs1, size_ge _⟩
          · rw [stkS_app]; omega
          · rw [stkS_app]; omega
          · intro x hx
            rcases List.mem_append.mp hx with hx | hx
            · exact hall x (List.mem_append_left _ hx)
            · unfold innS at hx
              obtain ⟨o, ho, rfl⟩ := List.mem_map.mp hx
              have := inn_dp ho
              exact ⟨hq.inn ho, by show dp + 1 + o.depth ≤ 21; omega⟩
      have hnd1 : (ys.flatMap (fun x => x.1.labs) ++ q.labs ++ seen).Nodup := by
        rw [List.flatMap_append] at hnd
        simpa using hnd
      by_cases hc : q.kind = "call"
      · obtain ⟨l, g, b, hh, rfl⟩ : ∃ l g b hh, q = .call l g b hh := by
          cases q with
          | call l g b hh => exact ⟨l, g, b, hh, rfl⟩
          | two k _ _ => cases k <;> simp [Pol.kind, Two.s] at hc
          | num k _ _ _ => cases k <;> simp [Pol.kind, Num.s] at hc
          | _ => simp [Pol.kind] at hc
        have hnl : l ∉ seen := by
          have := (List.nodup_append.mp hnd1).2.2 l (by simp [Pol.labs])
          exact fun hm => this l hm rfl
        refine seq_cut (fun ρ s => ρ = [some (.d p.pd), some (.c st.length), some (.c (st.length + 1)), some (.d (.int (many + 1 : Nat))), some (.d (Pol.call l g b hh).pd), some (.d (.int (dp : Int))), x6] ∧ s = st ++ [.l (stkD ys), .m (seenD (seen ++ [l]))]) ?_ ?_
        · have hsl' : seen.length < 16777216 := by omega
          have e4 := cmp2_of (st := st ++ [Cl.l (stkD ys), .m (seenD seen)]) (g := gInD false) (x := .d (.str l)) (y := .c (st.length + 1)) (a := .str l) (b := .dict (seenD seen)) rfl (by
            have hg : isGone (.m (seenD seen)) = false := ok_notGone (seen_ok l seen)
            simp [hg])
          rw [gInD_d, if_pos (seen_ok l seen), seen_look l seen hnl] at e4
          simp [Pol.pd, e4, seen_ok, seen_len, szl, hsl', seen_put l seen hnl]
        rintro ρ s ⟨rfl, rfl⟩
        refine fin (seen ++ [l]) (by simp; omega) ?_
        rw [List.flatMap_append]
        have e5 : ((innS (Pol.call l g b hh) (dp + 1)).flatMap fun x => x.1.labs) = [] := rfl
        rw [e5, List.append_nil]
        have hp : ((ys.flatMap fun x => x.1.labs) ++ (seen ++ [l])).Perm (ys.flatMap (fun x => x.1.labs) ++ (Pol.call l g b hh).labs ++ seen) := by
          rw [List.append_assoc]
          exact List.Perm.append_left _ List.perm_append_comm
        exact hp.nodup_iff.mpr hnd1
      · refine seq_cut (fun ρ s => ρ = [some (.d p.pd), some (.c st.length), some (.c (st.length + 1)), some (.d (.int (many + 1 : Nat))), some (.d q.pd), some (.d (.int (dp : Int))), x6] ∧ s = st ++ [.l (stkD ys), .m (seenD seen)]) ?_ ?_
        · obtain ⟨r, er⟩ := inn_pd q
          rw [er]
          simp [hc]
        rintro ρ s ⟨rfl, rfl⟩
        refine fin seen (by omega) ?_
        rw [List.flatMap_append, inn_labs q (dp + 1) hc]
        exact hnd1
  · rintro ρ s ⟨t, rfl⟩
    simp
    exact h t
end
end Cp
/-! Ps4: parts put in place, parts left out. -/
namespace Cp
open PySem L2
noncomputable def sbS_can_be_left_out : Sv := (sSeq (sIf (mCmp gEq (mBin fIx (mN 0) (mK (.int 0))) (mK (.str "retry"))) (sRet (bV (mCmp gNe (mBin fIx (mN 0) (mK (.int 1))) (mTup aNil)))) sNil) (sRet (eAnd (bV (mCmp (gIn false) (mBin fIx (mN 0) (mK (.int 0))) (mK (.tuple [.str "fallback", .str "hedge", .str "race", .str "timeout"])))) (bV (mCmp gNotN (mBin fIx (mN 0) (mK (.int 1))) (mK .none))))))
noncomputable def semS_can_be_left_out : Fs := bodyF 1 1 sbS_can_be_left_out
noncomputable def sbS_without_part : Sv := (sSeq (sExp (mCall semS_check_part (aCons (mV (mN 0)) (aCons (mV (mN 1)) aNil)))) (sSeq (sAsg (gNm 2) (mV (mCall semS_part_at (aCons (mV (mN 0)) (aCons (mV (mN 1)) aNil))))) (sSeq (sIf (bNot (mTru (mCall semS_can_be_left_out (aCons (mV (mN 2)) aNil)))) (sRaise1 "NoPart" "value" (aCons (mV (mN 1)) aNil)) sNil) (sRet (mCall semS_with_number (aCons (mV (mN 0)) (aCons (mV (mN 1)) (aCons (mV (eIf (mCmp gEq (mBin fIx (mN 2) (mK (.int 0))) (mK (.str "retry"))) (mSl (mBin fIx (mN 2) (mK (.int 1))) oNone (oSome (mNeg (mK (.int 1))))) (mK .none))) aNil))))))))
noncomputable def semS_without_part : Fs := bodyF 3 2 sbS_without_part
noncomputable def sbS_leavable : Sv := (sSeq (sAsg (gNm 1) (mVc (mLst aNil))) (sSeq (sFor (iOf (mCall (semS_all_paths 25) (aCons (mV (mN 0)) aNil))) (gNm 2) (sSeq (sAsg (gNm 3) (mV (mCall semS_part (aCons (mV (mN 0)) (aCons (mV (mN 2)) aNil))))) (sSeq (sAsg (gNm 4) (mV (eAnd (bV (mCmp (gIn false) (mBin fIx (mN 3) (mK (.int 0))) (mTup (aCons (mV (mK (.str "fallback"))) (aCons (mV (mK (.str "timeout"))) (aCons (mV (mK (.str "race"))) (aCons (mV (mK (.str "hedge"))) aNil))))))) (bV (mCmp gNotN (mBin fIx (mN 3) (mK (.int 1))) (mK .none)))))) (sIf (bOr (mTru (mN 4)) (bAnd (mCmp gEq (mBin fIx (mN 3) (mK (.int 0))) (mK (.str "retry"))) (mCmp gNe (mBin fIx (mN 3) (mK (.int 1))) (mTup aNil)))) (sExp (mApp (mN 1) (mN 2))) sNil)))) (sRet (mN 1))))
noncomputable def semS_leavable : Fs := bodyF 5 1 sbS_leavable
noncomputable def sbS_left_out : Sv := (sSeq (sAsg (gNm 2) (mV (mCall semS_part (aCons (mV (mN 0)) (aCons (mV (mN 1)) aNil))))) (sSeq (sAsg (gNm 3) (mV (eIf (mCmp gEq (mBin fIx (mN 2) (mK (.int 0))) (mK (.str "retry"))) (mSl (mBin fIx (mN 2) (mK (.int 1))) oNone (oSome (mNeg (mK (.int 1))))) (mK .none)))) (sRet (mCall (semS_lput 25) (aCons (mV (mN 0)) (aCons (mV (mN 1)) (aCons (mV (mBin fAdd (mTup (aCons (mV (mBin fIx (mN 2) (mK (.int 0)))) (aCons (mV (mN 3)) aNil))) (mSl (mN 2) (oSome (mK (.int 2))) oNone))) aNil)))))))
noncomputable def semS_left_out : Fs := bodyF 4 2 sbS_left_out
noncomputable def sbS_odd : Sv := (sSeq (sAsg (gNm 1) (mV (mLst (aCons (mV (mK .none)) (aCons (mV (mK (.bool true))) (aCons (mV (mK (.bool false))) (aCons (mV (mK (.int 0))) (aCons (mV (mNeg (mK (.int 1)))) (aCons (mV (mBin (fI pPow fun i j => i ^ j.toNat) (mK (.int 10)) (mK (.int 20)))) (aCons (mV (mK (.str ""))) (aCons (mV (mK (.str "a"))) (aCons (mV (mK (.str "call"))) (aCons (mV (mLst aNil)) (aCons (mV mD0) (aCons (mV (mTup (aCons (mV (mK (.int 0))) aNil))) (aCons (mV (mTup (aCons (mV (mK (.int 1))) (aCons (mV (mK (.int 0))) aNil)))) (aCons (mV (mTup (aCons (mV (mK (.str "a"))) (aCons (mV (mTup aNil)) aNil)))) (aCons (mV (mTup (aCons (mV (mTup aNil)) aNil))) (aCons (mV (mDct [((mK (.str "a")), (mK (.int 1)))])) (aCons (mV (mLst (aCons (mV (mTup aNil)) aNil))) aNil)))))))))))))))))))) (sRet (mCall semU_of (aCons (mVc (mN 0)) (aCons (mV (mBin fAdd (mN 1) (mLst (aCons (mV (mTup (aCons (mV (mK (.bool true))) aNil))) (aCons (mV (mTup (aCons (mV (mK (.str "0"))) aNil))) (aCons (mV (mTup (aCons (mV (mNeg (mK (.int 1)))) aNil))) (aCons (mV (mTup (aCons (mV (mK (.int 2))) aNil))) (aCons (mV (mTup (aCons (mV (mTup (aCons (mV (mK (.int 0))) aNil))) aNil))) (aCons (mV (mTup (aCons (mV (mK .none)) aNil))) (aCons (mV (mTup (aCons (mV (mK (.int 0))) (aCons (mV (mK (.int 0))) (aCons (mV (mK (.int 0))) (aCons (mV (mK (.int 0))) (aCons (mV (mK (.int 0))) aNil))))))) aNil)))))))))) aNil)))))
noncomputable def semS_odd : Fs := bodyF 2 1 sbS_odd

section
variable {st : Sto} {P : Rv → Sto → Prop} {E : Er → Sto → Prop}
theorem w_lput : ∀ (f : Nat) {q : List Nat} {p r : Pol} {x : PyData} {st : Sto} {P : Rv → Sto → Prop}, q.length < f → p.at q = some r → (∀ t, P (.d (p.putX q x)) (st ++ t)) → WVe noE (semS_lput f [.d p.pd, .d (paD q), .d x] st) P
  | 0, _, _, _, _, _, _, h, _, _ => absurd h (Nat.not_lt_zero _)
  | f + 1, q, p, r, x, st, P, hf, ha, h => by
    show WVe noE (bodyF 4 3 (sbS_lput (semS_lput f)) _ _) P
    unfold sbS_lput
    rw [W_body]
    have e := paD_eq q fun i hi => Nat.lt_of_lt_of_le (at_small ha i hi) (by decide)
    cases q with
    | nil =>
      simp [e]
      have := h []
      simpa [Pol.putX] using this
    | cons i q =>
      have ha2 : (match p.inn[i]? with | some r => r.at q | none => none) = some r := ha
      cases q1 : p.inn[i]? with
      | none => rw [q1] at ha2; cases ha2
      | some o =>
        rw [q1] at ha2
        have hi : i < p.inn.length := (List.getElem?_eq_some_iff.mp q1).1
        have hl : p.inn.length ≤ 2 := by cases p <;> simp [Pol.inn]
        obtain ⟨o', e1, e2⟩ := atI_inn hi
        rw [q1] at e1; cases e1
        have e3 : ixN p.inn.length (i : Int) = some i := by
          unfold ixN
          rw [if_pos (by omega), if_pos (by omega)]; rfl
        simp [e]
        refine w_linner ?_
        simp [paD, e2, cutD1]
        refine w_lput f (q := q) (r := r) (by simp at hf; omega) ha2 fun t => ?_
        rw [List.append_assoc]
        have h3 : p.hd.length ≤ 5 := by cases p <;> simp [Pol.hd]
        have this : p.putX (i :: q) x = .tuple (p.hd ++ (p.inn.map Pol.pd).set i (o.putX q x)) := by
          show PyData.tuple (p.hd ++ (p.inn.map Pol.pd).set i (match p.inn[i]? with | some r => r.putX q x | none => .none)) = _
          rw [q1]
        have e4 : ((p.hd.length : Int) + (p.inn.length : Int) - (p.inn.length : Int)) = ((p.hd.length : Nat) : Int) := by omega
        rw [pd_hd]
        simp [e3, e4]
        rw [cutT (by simp), List.take_left' rfl]
        simp [szl]
        rw [← this]
        exact ⟨by omega, h _⟩
/-- another policy in the place of a part -/
def Pol.put : Pol → List Nat → Pol → Pol
  | _, [], x => x
  | .two k a b, 0 :: q, x => .two k (a.put q x) b
  | .two k a b, 1 :: q, x => .two k a (b.put q x)
  | .num k n a b, 0 :: q, x => .num k n (a.put q x) b
  | .num k n a b, 1 :: q, x => .num k n a (b.put q x)
  | .retry ps a, 0 :: q, x => .retry ps (a.put q x)
  | .tmo n a, 0 :: q, x => .tmo n (a.put q x)
  | p, _ :: _, _ => p
theorem putX_put : ∀ (q : List Nat) {p r : Pol} (x : Pol), p.at q = some r → p.putX q x.pd = (p.put q x).pd
  | [], p, r, x, _ => by simp [Pol.putX, Pol.put]
  | i :: q, p, r, x, h => by
    have h : (match p.inn[i]? with | some r => r.at q | none => none) = some r := h
    show PyData.tuple (p.hd ++ (p.inn.map Pol.pd).set i (match p.inn[i]? with | some r => r.putX q x.pd | none => .none)) = _
    cases p with
    | call l g b hh => simp [Pol.inn] at h
    | wait n => simp [Pol.inn] at h
    | two k a b =>
      match i, h with
      | 0, h => simp [Pol.inn] at h ⊢; rw [putX_put q x h]; rfl
      | 1, h => simp [Pol.inn] at h ⊢; rw [putX_put q x h]; rfl
      | i + 2, h => simp [Pol.inn] at h
    | num k n a b =>
      match i, h with
      | 0, h => simp [Pol.inn] at h ⊢; rw [putX_put q x h]; rfl
      | 1, h => simp [Pol.inn] at h ⊢; rw [putX_put q x h]; rfl
      | i + 2, h => simp [Pol.inn] at h
    | retry ps a =>
      match i, h with
      | 0, h => simp [Pol.inn] at h ⊢; rw [putX_put q x h]; rfl
      | i + 1, h => simp [Pol.inn] at h
    | tmo n a =>
      match i, h with
      | 0, h => simp [Pol.inn] at h ⊢; rw [putX_put q x h]; rfl
      | i + 1, h => simp [Pol.inn] at h
/-- a part without its number, or its last pause -/
def Pol.less : Pol → Pol
  | .num k _ a b => .num k none a b
  | .tmo _ a => .tmo none a
  | .retry ps a => .retry ps.dropLast a
  | p => p
def Pol.lv : Pol → Bool
  | .num _ n _ _ => n.isSome
  | .tmo n _ => n.isSome
  | .retry ps _ => !ps.isEmpty
  | _ => false
theorem less_same (p : Pol) : p.less.size = p.size ∧ p.less.depth = p.depth ∧ p.less.labs = p.labs := by
  cases p <;> exact ⟨rfl, rfl, rfl⟩
theorem less_node {p : Pol} (h : p.All Pol.Node) : p.less.All Pol.Node := by
  cases p with
  | num k n a b => exact ⟨trivial, h.2.1, h.2.2⟩
  | tmo n a => exact ⟨trivial, h.2⟩
  | retry ps a => exact ⟨⟨by rw [List.length_dropLast]; have := h.1.1; omega, fun x hx => h.1.2 x (List.dropLast_subset _ hx)⟩, h.2⟩
  | _ => exact h
theorem put_same : ∀ (q : List Nat) {p r x : Pol}, p.at q = some r → x.size = r.size → x.depth = r.depth → x.labs = r.labs → (p.put q x).size = p.size ∧ (p.put q x).depth = p.depth ∧ (p.put q x).labs = p.labs
  | [], p, r, x, h, h1, h2, h3 => by cases h; simp [Pol.put, h1, h2, h3]
  | i :: q, p, r, x, h, h1, h2, h3 => by
    have h : (match p.inn[i]? with | some r => r.at q | none => none) = some r := h
    cases p with
    | call l g b hh => simp [Pol.inn] at h
    | wait n => simp [Pol.inn] at h
    | two k a b =>
      match i, h with
      | 0, h => simp [Pol.inn] at h; obtain ⟨g1, g2, g3⟩ := put_same q h h1 h2 h3; simp [Pol.put, Pol.size, Pol.depth, Pol.labs, g1, g2, g3]
      | 1, h => simp [Pol.inn] at h; obtain ⟨g1, g2, g3⟩ := put_same q h h1 h2 h3; simp [Pol.put, Pol.size, Pol.depth, Pol.labs, g1, g2, g3]
      | i + 2, h => simp [Pol.inn] at h
    | num k n a b =>
      match i, h with
      | 0, h => simp [Pol.inn] at h; obtain ⟨g1, g2, g3⟩ := put_same q h h1 h2 h3; simp [Pol.put, Pol.size, Pol.depth, Pol.labs, g1, g2, g3]
      | 1, h => simp [Pol.inn] at h; obtain ⟨g1, g2, g3⟩ := put_same q h h1 h2 h3; simp [Pol.put, Pol.size, Pol.depth, Pol.labs, g1, g2, g3]
      | i + 2, h => simp [Pol.inn] at h
    | retry ps a =>
      match i, h with
      | 0, h => simp [Pol.inn] at h; obtain ⟨g1, g2, g3⟩ := put_same q h h1 h2 h3; simp [Pol.put, Pol.size, Pol.depth, Pol.labs, g1, g2, g3]
      | i + 1, h => simp [Pol.inn] at h
    | tmo n a =>
      match i, h with
      | 0, h => simp [Pol.inn] at h; obtain ⟨g1, g2, g3⟩ := put_same q h h1 h2 h3; simp [Pol.put, Pol.size, Pol.depth, Pol.labs, g1, g2, g3]
      | i + 1, h => simp [Pol.inn] at h
theorem at_node : ∀ (q : List Nat) {p r : Pol}, p.at q = some r → p.All Pol.Node → r.All Pol.Node
  | [], p, r, h, hp => by cases h; exact hp
  | i :: q, p, r, h, hp => by
    have h : (match p.inn[i]? with | some r => r.at q | none => none) = some r := h
    cases q1 : p.inn[i]? with
    | none => rw [q1] at h; cases h
    | some o => rw [q1] at h; exact at_node q h (hp.inn (List.mem_of_getElem? q1))
theorem put_node : ∀ (q : List Nat) {p r x : Pol}, p.at q = some r → p.All Pol.Node → x.All Pol.Node → (p.put q x).All Pol.Node
  | [], p, r, x, h, hp, hx => by simp [Pol.put]; exact hx
  | i :: q, p, r, x, h, hp, hx => by
    have h : (match p.inn[i]? with | some r => r.at q | none => none) = some r := h
    cases p with
    | call l g b hh => simp [Pol.inn] at h
    | wait n => simp [Pol.inn] at h
    | two k a b =>
      match i, h with
      | 0, h => simp [Pol.inn] at h; exact ⟨hp.1, put_node q h hp.2.1 hx, hp.2.2⟩
      | 1, h => simp [Pol.inn] at h; exact ⟨hp.1, hp.2.1, put_node q h hp.2.2 hx⟩
      | i + 2, h => simp [Pol.inn] at h
    | num k n a b =>
      match i, h with
      | 0, h => simp [Pol.inn] at h; exact ⟨hp.1, put_node q h hp.2.1 hx, hp.2.2⟩
      | 1, h => simp [Pol.inn] at h; exact ⟨hp.1, hp.2.1, put_node q h hp.2.2 hx⟩
      | i + 2, h => simp [Pol.inn] at h
    | retry ps a =>
      match i, h with
      | 0, h => simp [Pol.inn] at h; exact ⟨hp.1, put_node q h hp.2 hx⟩
      | i + 1, h => simp [Pol.inn] at h
    | tmo n a =>
      match i, h with
      | 0, h => simp [Pol.inn] at h; exact ⟨hp.1, put_node q h hp.2 hx⟩
      | i + 1, h => simp [Pol.inn] at h
theorem valid_less {p r : Pol} {q : List Nat} (hv : p.Valid) (ha : p.at q = some r) : (p.put q r.less).Valid := by
  obtain ⟨s1, s2, s3⟩ := less_same r
  obtain ⟨h1, h2, h3⟩ := put_same q ha s1 s2 s3
  exact ⟨put_node q ha hv.nd (less_node (at_node q ha hv.nd)), by rw [h1]; exact hv.sz, by rw [h2]; exact hv.dp, by rw [h3]; exact hv.lb⟩
theorem path_at {p r : Pol} {q : List Nat} (h : p.at q = some r) : pathP p (paD q) = some r := walk_path h
theorem qpath_paD (q : List Nat) : QPath (paD q) := ⟨rfl, fun ds e x hx => by
  unfold paD at e
  cases e
  obtain ⟨n, _, rfl⟩ := List.mem_map.mp hx
  rfl⟩
theorem w_check_policy {p : Pol} (hv : p.Valid) (h : ∀ t, P (.d .none) (st ++ t)) : WVe E (semS_check_policy [.d p.pd] st) P := by
  unfold semS_check_policy sbS_check_policy
  rw [W_body]
  simp
  refine wv_E (w_is_policy hv fun t => ?_)
  simp
  simpa using h []
theorem w_replaced {p r x : Pol} {q : List Nat} (ha : p.at q = some r) (hq : q.length < 25) (hv : (p.put q x).Valid) (h : P (.d (p.put q x).pd) st) : WVe E (semS_replaced [.d p.pd, .d (paD q), .d x.pd] st) P := by
  unfold semS_replaced sbS_replaced
  rw [W_body]
  simp
  refine w_check_part _ (qpath_paD q) (fun _ _ => ?_) (fun e => by rw [path_at ha] at e; cases e)
  simp
  refine wv_E (w_put_at 25 hq ha fun t => ?_)
  simp
  rw [putX_put q x ha]
  refine w_check_policy hv fun t => ?_
  simp
  exact h
end
end Cp
/-! Ps5: parts left out. -/
namespace Cp
open PySem L2
section
variable {st : Sto} {P : Rv → Sto → Prop} {E : Er → Sto → Prop}
theorem gNe_ints (ps : List Int) (h : ∀ x ∈ ps, 0 ≤ x ∧ x ≤ 1000000000) : gNe (.tuple (ps.map PyData.int)) (.tuple []) = some (!ps.isEmpty) := by
  rw [gNe_at (a := .tuple (ps.map PyData.int)) (b := .tuple []) (okSs_of fun d hd => by
    obtain ⟨x, hx, rfl⟩ := List.mem_map.mp hd
    exact log_small (k := 40) (by have := h x hx; omega) (by decide)) trivial (by
    show PyData.depthAll (ps.map PyData.int) + 1 ≤ 64
    have := depthAll_le (B := 0) (ds := ps.map PyData.int) fun d hd => by
      obtain ⟨x, _, rfl⟩ := List.mem_map.mp hd; exact Nat.le_refl _
    omega) (by decide)]
  cases ps <;> rfl
theorem w_can_leave {r : Pol} (hn : r.All Pol.Node) (h : P (.d (.bool r.lv)) st) : WVe noE (semS_can_be_left_out [.d r.pd] st) P := by
  unfold semS_can_be_left_out sbS_can_be_left_out
  rw [W_body]
  cases r with
  | call l g b hh => simp [Pol.pd, gIn, itemsD, flatD, eqF]; exact h
  | wait n => simp [Pol.pd, gIn, itemsD, flatD, eqF]; exact h
  | two k a b => cases k <;> simp [Pol.pd, Two.s, gIn, itemsD, flatD, eqF] <;> exact h
  | num k n a b => cases n <;> cases k <;> simp [Pol.pd, Num.s, gIn, itemsD, flatD, eqF, nuD, gNotN] <;> exact h
  | retry ps a => simp [Pol.pd, gNe_ints ps hn.1.2]; exact h
  | tmo n a => cases n <;> simp [Pol.pd, gIn, itemsD, flatD, eqF, nuD, gNotN] <;> exact h
theorem cutLast (xs : List PyData) (h : xs ≠ []) : cutD xs none (some (-1)) = xs.dropLast := by
  obtain ⟨ys, y, rfl⟩ : ∃ ys y, xs = ys ++ [y] := by
    rcases List.eq_nil_or_concat xs with e | ⟨ys, y, e⟩
    · exact absurd e h
    · exact ⟨ys, y, by rw [e, List.concat_eq_append]⟩
  unfold cutD
  have : HT.sIx (ys ++ [y]).length (ys ++ [y]).length (some (-1)) = ys.length := by
    unfold HT.sIx
    simp
    omega
  rw [this]
  show ((ys ++ [y]).drop 0).take (ys.length - 0) = _
  simp
def lessN : Pol → PyData
  | .retry ps _ => .tuple (ps.dropLast.map PyData.int)
  | _ => .none
theorem w_with_less {p r : Pol} {q : List Nat} (ha : p.at q = some r) (hq : q.length < 25) (hv : p.Valid) (hl : r.lv = true) (h : P (.d (p.put q r.less).pd) st) : WVe E (semS_with_number [.d p.pd, .d (paD q), .d (lessN r)] st) P := by
  unfold semS_with_number sbS_with_number
  rw [W_body]
  simp
  refine w_part_at _ (qpath_paD q) (fun r' hr => ?_) (fun e => by rw [path_at ha] at e; cases e)
  rw [path_at ha] at hr
  cases hr
  have hvl := valid_less hv ha
  have key : ∀ E' : Er → Sto → Prop, WVe E' (semS_replaced [.d p.pd, .d (paD q), .d r.less.pd] st) fun r s' => back st.length r s' P := fun _ => w_replaced ha hq hvl (by simpa using h)
  generalize semS_replaced = sem at key ⊢
  cases r with
  | call l g b hh => cases hl
  | wait n => cases hl
  | two k a b => cases hl
  | num k n a b =>
    cases k <;> simp [Pol.pd, Num.s, gIn, itemsD, flatD, eqF, szl, lessN, cut4, Pol.less, nuD] at key ⊢ <;> exact key _
  | retry ps a =>
    simp [Pol.pd, gIn, itemsD, flatD, eqF, szl, lessN, cut3, Pol.less] at key ⊢
    exact key _
  | tmo n a =>
    simp [Pol.pd, gIn, itemsD, flatD, eqF, szl, lessN, cut3, Pol.less, nuD] at key ⊢
    exact key _
theorem w_without {p : Pol} (d : PyData) (hd : QPath d) (hv : p.Valid) (h : ∀ q r, d = paD q → p.at q = some r → r.lv = true → P (.d (p.put q r.less).pd) st)
    (he : (∀ r, pathP p d = some r → r.lv = false) → E ⟨Str.ofString "NoPart", some (Str.ofString "value", d)⟩ st) : WVe E (semS_without_part [.d p.pd, .d d] st) P := by
  unfold semS_without_part sbS_without_part
  rw [W_body]
  simp
  refine w_check_part d hd (fun r hr => ?_) (fun e => by simpa using he fun r hr => by rw [e] at hr; cases hr)
  simp
  refine w_part_at d hd (fun r' hr' => ?_) (fun e => by rw [e] at hr; cases hr)
  rw [hr] at hr'; cases hr'
  obtain ⟨ds, rfl⟩ : ∃ ds, d = .tuple ds := by cases d <;> first | cases hr | exact ⟨_, rfl⟩
  obtain ⟨q, rfl, ha⟩ := path_walk hr
  have hn := at_node q ha hv.nd
  have hql : q.length < 25 := by have := at_depth ha; have := hv.dp; have := dp_pos r; omega
  simp
  refine wv_E (w_can_leave hn ?_)
  cases hl : r.lv with
  | false =>
    simp
    exact he fun r' hr' => by rw [hr] at hr'; cases hr'; exact hl
  | true =>
    have fin := h q r rfl ha hl
    simp
    have key : ∀ E' : Er → Sto → Prop, WVe E' (semS_with_number [.d p.pd, .d (paD q), .d (lessN r)] st) fun r s' => back st.length r s' P := fun _ => w_with_less ha hql hv hl (by simpa using fin)
    generalize semS_with_number = sem at key ⊢
    cases r with
    | call l g b hh => cases hl
    | wait n => cases hl
    | two k a b => cases hl
    | num k n a b => cases k <;> simp [Pol.pd, Num.s, lessN] at key ⊢ <;> exact key _
    | tmo n a => simp [Pol.pd, lessN] at key ⊢; exact key _
    | retry ps a =>
      have hne : ps.map PyData.int ≠ [] := by cases ps <;> simp [Pol.lv] at hl ⊢
      simp [Pol.pd, cutLast _ hne, lessN] at key ⊢
      exact key _
def pl (p : Pol) (q : List Nat) : Bool := match p.at q with
  | some r => r.lv
  | none => false
theorem paths_at : ∀ (p : Pol), ∀ q ∈ p.paths, ∃ r, p.at q = some r
  | .call _ _ _ _, q, h => by simp [Pol.paths] at h; subst h; exact ⟨_, rfl⟩
  | .wait _, q, h => by simp [Pol.paths] at h; subst h; exact ⟨_, rfl⟩
  | .two _ a b, q, h => by
    simp [Pol.paths] at h
    rcases h with rfl | ⟨r, hr, rfl⟩ | ⟨r, hr, rfl⟩
    · exact ⟨_, rfl⟩
    · exact paths_at a r hr
    · exact paths_at b r hr
  | .num _ _ a b, q, h => by
    simp [Pol.paths] at h
    rcases h with rfl | ⟨r, hr, rfl⟩ | ⟨r, hr, rfl⟩
    · exact ⟨_, rfl⟩
    · exact paths_at a r hr
    · exact paths_at b r hr
  | .retry _ a, q, h => by
    simp [Pol.paths] at h
    rcases h with rfl | ⟨r, hr, rfl⟩
    · exact ⟨_, rfl⟩
    · exact paths_at a r hr
  | .tmo _ a, q, h => by
    simp [Pol.paths] at h
    rcases h with rfl | ⟨r, hr, rfl⟩
    · exact ⟨_, rfl⟩
    · exact paths_at a r hr
theorem at_paths : ∀ (q : List Nat) {p r : Pol}, p.at q = some r → q ∈ p.paths
  | [], p, r, h => by cases p <;> simp [Pol.paths]
  | i :: q, p, r, h => by
    have h : (match p.inn[i]? with | some r => r.at q | none => none) = some r := h
    cases p with
    | call l g b hh => simp [Pol.inn] at h
    | wait n => simp [Pol.inn] at h
    | two k a b =>
      match i, h with
      | 0, h => simp [Pol.inn] at h; simp [Pol.paths]; exact at_paths q h
      | 1, h => simp [Pol.inn] at h; simp [Pol.paths]; exact at_paths q h
      | i + 2, h => simp [Pol.inn] at h
    | num k n a b =>
      match i, h with
      | 0, h => simp [Pol.inn] at h; simp [Pol.paths]; exact at_paths q h
      | 1, h => simp [Pol.inn] at h; simp [Pol.paths]; exact at_paths q h
      | i + 2, h => simp [Pol.inn] at h
    | retry ps a =>
      match i, h with
      | 0, h => simp [Pol.inn] at h; simp [Pol.paths]; exact at_paths q h
      | i + 1, h => simp [Pol.inn] at h
    | tmo n a =>
      match i, h with
      | 0, h => simp [Pol.inn] at h; simp [Pol.paths]; exact at_paths q h
      | i + 1, h => simp [Pol.inn] at h
theorem w_leavable {p : Pol} (hv : p.Valid) (h : P (.c st.length) (st ++ [.l ((p.paths.filter (pl p)).map paD)])) : WVe noE (semS_leavable [.d p.pd] st) P := by
  unfold semS_leavable sbS_leavable
  rw [W_body]
  refine ⟨rfl, ?_⟩
  have hsz := hv.sz
  have hdp := hv.dp
  refine seq_cut (fun ρ s => ρ = [some (.d p.pd), some (.c st.length), none, none, none] ∧ s = st ++ [.l []]) (by simp [szl]) ?_
  rintro ρ s ⟨rfl, rfl⟩
  refine seq_cut (fun ρ s => (∃ x y z, ρ = [some (.d p.pd), some (.c st.length), x, y, z]) ∧ s = st ++ [.l ((p.paths.filter (pl p)).map paD)]) ?_ ?_
  · rw [W_sFor]
    simp
    refine w_all_paths 25 (by omega) (by omega) (by omega) ?_
    simp
    refine forGo_by (I := fun i ρ s => (∃ x y z, ρ = [some (.d p.pd), some (.c st.length), x, y, z]) ∧ s = st ++ [.l (((p.paths.take i).filter (pl p)).map paD)]) _ 0 ⟨⟨_, _, _, rfl⟩, by simp⟩ (fun _ _ _ _ => trivial) ?_ ?_
    · rintro i d ρ s hd ⟨⟨x, y, z, rfl⟩, rfl⟩
      rw [List.getElem?_map] at hd
      cases hq : p.paths[i]? with
      | none => rw [hq] at hd; cases hd
      | some q =>
        rw [hq] at hd
        cases hd
        have hqm := List.mem_of_getElem? hq
        have hi : i < p.paths.length := (List.getElem?_eq_some_iff.mp hq).1
        obtain ⟨r, hr⟩ := paths_at p q hqm
        have hn := at_node q hr hv.nd
        rw [W_gNm]
        refine seq_cut (fun ρ s' => ρ = [some (.d p.pd), some (.c st.length), some (.d (paD q)), some (.d r.pd), z] ∧ s' = st ++ [.l (((p.paths.take (0 + i)).filter (pl p)).map paD)]) ?_ ?_
        · simp
          exact w_part (q := r) (walk_path hr) (by simp)
        rintro ρ s ⟨rfl, rfl⟩
        have hlen : ((p.paths.take i).filter (pl p)).length < 16777216 := by
          have := List.length_filter_le (pl p) (p.paths.take i)
          have := p.paths_len
          have h3 : (p.paths.take i).length ≤ p.paths.length := by rw [List.length_take]; omega
          omega
        have hpl : pl p q = r.lv := by unfold pl; rw [hr]
        have hnext : (p.paths.take (0 + i + 1)).filter (pl p) = (p.paths.take (0 + i)).filter (pl p) ++ if r.lv then [q] else [] := by
          rw [Nat.zero_add, filter_take_succ hq, hpl]
        rw [hnext]
        cases r with
        | call l g b hh => simp [Pol.pd, gIn, itemsD, flatD, eqF, Pol.lv, szl]
        | wait n => simp [Pol.pd, gIn, itemsD, flatD, eqF, Pol.lv, szl]
        | two k a b => cases k <;> simp [Pol.pd, Two.s, gIn, itemsD, flatD, eqF, Pol.lv, szl]
        | num k n a b => cases n <;> cases k <;> simp [Pol.pd, Num.s, gIn, itemsD, flatD, eqF, nuD, gNotN, gIsN, Pol.lv, hlen, szl]
        | retry ps a =>
          have e := gNe_ints ps hn.1.2
          cases ps with
          | nil => simp at e; simp [Pol.pd, gIn, itemsD, flatD, eqF, Pol.lv, szl, e]
          | cons x xs => simp at e; simp [Pol.pd, gIn, itemsD, flatD, eqF, Pol.lv, hlen, szl, e]
        | tmo n a => cases n <;> simp [Pol.pd, gIn, itemsD, flatD, eqF, nuD, gNotN, gIsN, Pol.lv, hlen, szl]
    · rintro ρ s ⟨⟨x, y, z, rfl⟩, rfl⟩
      refine ⟨⟨_, _, _, rfl⟩, ?_⟩
      rw [List.length_map, Nat.zero_add, List.take_length]
  · rintro ρ s ⟨⟨x, y, z, rfl⟩, rfl⟩
    simp
    exact h
theorem w_left_out {p r : Pol} {q : List Nat} (hr : p.at q = some r) (hv : p.Valid) (hl : r.lv = true) (h : P (.d (p.put q r.less).pd) st) : WVe noE (semS_left_out [.d p.pd, .d (paD q)] st) P := by
  unfold semS_left_out sbS_left_out
  rw [W_body]
  have hql : q.length < 25 := by have := at_depth hr; have := hv.dp; have := dp_pos r; omega
  simp
  refine w_part (q := r) (walk_path hr) ?_
  have key : WVe noE (semS_lput 25 [.d p.pd, .d (paD q), .d r.less.pd] st) fun r s' => back st.length r s' P := w_lput 25 hql hr fun t => by simp; rw [putX_put q r.less hr]; exact h
  generalize semS_lput 25 = sem at key ⊢
  cases r with
  | call l g b hh => cases hl
  | wait n => cases hl
  | two k a b => cases hl
  | num k n a b => cases k <;> simp [Pol.pd, Num.s, szl, cut4, Pol.less, nuD] at key ⊢ <;> exact key
  | tmo n a => simp [Pol.pd, szl, cut3, Pol.less, nuD] at key ⊢; exact key
  | retry ps a =>
    have hne : ps.map PyData.int ≠ [] := by cases ps <;> simp [Pol.lv] at hl ⊢
    simp [Pol.pd, szl, cut3, cutLast _ hne, Pol.less] at key ⊢
    exact key
end
end Cp
/-! Ps6: drawn policies are policies; what paths look like. -/
namespace Cp
open PySem L2
def isLabB (x : Str) : Bool := decide (1 ≤ x.length) && (decide (x.length ≤ 8) && x.cps.toList.all fun c => SIG.cps.toList.contains c)
theorem isLabB_ok {x : Str} (h : isLabB x = true) : IsLab x := by
  unfold isLabB at h
  simp only [Bool.and_eq_true, decide_eq_true_eq, List.all_eq_true] at h
  exact ⟨h.1, h.2.1, fun c hc => by have := h.2.2 c hc; simpa using this⟩
def stems : List Str := [Str.ofString "", Str.ofString "c", Str.ofString "call"]
theorem labs_all : (stems.all fun s => (List.range 40).all fun k => isLabB (labK s (k + 1))) = true := by decide +kernel
theorem labs_nd : (stems.all fun s => decide (((List.range 40).map fun k => labK s (k + 1)).Nodup)) = true := by decide +kernel
theorem lab_ok {stem : Str} (hs : stem ∈ stems) {k : Nat} (hk : k < 40) : IsLab (labK stem (k + 1)) :=
  isLabB_ok (List.all_eq_true.mp (List.all_eq_true.mp labs_all stem hs) k (List.mem_range.mpr hk))
theorem labs_le : ∀ p : Pol, p.labs.length ≤ p.size
  | .call _ _ _ _ => Nat.le_refl _
  | .wait _ => Nat.zero_le _
  | .two _ a b => by have := labs_le a; have := labs_le b; simp [Pol.labs, Pol.size]; omega
  | .num _ _ a b => by have := labs_le a; have := labs_le b; simp [Pol.labs, Pol.size]; omega
  | .retry _ a => by have := labs_le a; simp [Pol.labs, Pol.size]; omega
  | .tmo _ a => by have := labs_le a; simp [Pol.labs, Pol.size]; omega
theorem drawn_node {L : Int} (hL : L < 1000000000) : ∀ {p : Pol}, p.Bnd L → (∀ l ∈ p.labs, IsLab l) → p.All Pol.Node
  | .call l g b h, hb, hl => by
    have sp : ∀ s : Span, spB L s → SpOk s := fun s hs => by
      cases s with
      | none => trivial
      | some s => exact ⟨hs.1, hs.2.1, by have := hs.2.2; omega⟩
    refine ⟨hl l (by simp [Pol.labs]), sp g hb.1, sp b hb.2.1, ?_⟩
    cases g with
    | some g => exact .inr (.inl (by simp))
    | none => exact .inr (.inr (hb.2.2 rfl))
  | .wait n, hb, _ => ⟨hb.1, by have := hb.2; omega⟩
  | .two k a b, hb, hl => ⟨trivial, drawn_node hL hb.1 fun l h => hl l (by simp [Pol.labs, h]), drawn_node hL hb.2 fun l h => hl l (by simp [Pol.labs, h])⟩
  | .num k n a b, hb, hl => ⟨(by cases n with
    | none => trivial
    | some n => exact ⟨hb.1.1, by have := hb.1.2; omega⟩), drawn_node hL hb.2.1 fun l h => hl l (by simp [Pol.labs, h]), drawn_node hL hb.2.2 fun l h => hl l (by simp [Pol.labs, h])⟩
  | .retry ps a, hb, hl => ⟨⟨by have := hb.1.1; omega, fun x hx => by have := hb.1.2 x hx; omega⟩, drawn_node hL hb.2 fun l h => hl l (by simpa [Pol.labs] using h)⟩
  | .tmo n a, hb, hl => ⟨(by cases n with
    | none => trivial
    | some n => exact ⟨hb.1.1, by have := hb.1.2; omega⟩), drawn_node hL hb.2 fun l h => hl l (by simpa [Pol.labs] using h)⟩
theorem valid_drawn {L : Int} {p : Pol} {stem : Str} (hL : L < 1000000000) (hb : p.Bnd L) (hs : p.size ≤ 40) (hd : p.depth ≤ 20) (hl : p.Lab stem 0) (hst : stem ∈ stems) : p.Valid := by
  have hn := labs_le p
  have hl : p.labs = (List.range p.labs.length).map fun x => labK stem (0 + x + 1) := hl
  refine ⟨drawn_node hL hb fun l h => ?_, hs, hd, ?_⟩
  · rw [hl] at h
    obtain ⟨k, hk, rfl⟩ := List.mem_map.mp h
    rw [Nat.zero_add]
    exact lab_ok hst (by have := List.mem_range.mp hk; omega)
  · have h40 : ((List.range 40).map fun k => labK stem (k + 1)).Nodup := of_decide_eq_true (List.all_eq_true.mp labs_nd stem hst)
    rw [hl]
    have e : (fun x => labK stem (0 + x + 1)) = fun k => labK stem (k + 1) := by funext x; rw [Nat.zero_add]
    rw [e]
    refine h40.sublist (List.Sublist.map _ ?_)
    have : List.range 40 = List.range p.labs.length ++ (List.range (40 - p.labs.length)).map (p.labs.length + ·) := by
      rw [← List.range_add]; congr 1; omega
    rw [this]
    exact List.sublist_append_left _ _
/-! ### paths as texts -/
def dgL (l : List Nat) : List Nat := l.filter fun c => decide (c = 48) || decide (c = 49)
def dg (x : Str) : List Nat := dgL x.cps.toList
theorem dg_app (x y : Str) : dg (x ++ y) = dg x ++ dg y := by
  unfold dg dgL
  rw [← List.filter_append]
  congr 1
  show (x.cps ++ y.cps).toList = _
  simp
theorem dg_join : ∀ ts : List Str, dg (Str.join ", " ts) = ts.flatMap dg
  | [] => rfl
  | [x] => by show dg x = _; simp
  | x :: y :: r => by
    show dg (x ++ ", " ++ Str.join ", " (y :: r)) = _
    rw [dg_app, dg_app, dg_join (y :: r)]
    have : dg (", " : Str) = [] := by decide +kernel
    rw [this]; simp
theorem dg_int {n : Nat} (h : n < 2) : dg (PyData.int (n : Int)).shown = [48 + n] := by
  have : n = 0 ∨ n = 1 := by omega
  rcases this with rfl | rfl <;> decide +kernel
theorem dg_paD (q : List Nat) (h : ∀ i ∈ q, i < 2) : dg (paD q).shown = q.map (48 + ·) := by
  have e : (paD q).shown = PySem.tupleText (PyData.shownAll (q.map fun (n : Nat) => PyData.int (n : Int))) := rfl
  rw [e]
  unfold PySem.tupleText
  rw [dg_app, dg_app, dg_join]
  have e1 : dg ("(" : Str) = [] := by decide +kernel
  have e2 : ∀ b : Bool, dg ((if b = true then ",)" else ")" : String) : Str) = [] := by decide +kernel
  rw [e1, e2]
  simp only [List.nil_append, List.append_nil]
  clear e e1 e2
  induction q with
  | nil => rfl
  | cons i q ih =>
    show dg (PyData.int (i : Int)).shown ++ (PyData.shownAll (q.map fun (n : Nat) => PyData.int (n : Int))).flatMap dg = _
    rw [dg_int (h i (List.mem_cons_self ..)), ih fun j hj => h j (List.mem_cons_of_mem _ hj)]
    rfl
def undg (l : List Nat) : List Nat := l.map (· - 48)
theorem undg_paD (q : List Nat) (h : ∀ i ∈ q, i < 2) : undg (dg (paD q).shown) = q := by
  rw [dg_paD q h]
  unfold undg
  rw [List.map_map]
  conv => rhs; rw [← List.map_id q]
  exact List.map_congr_left fun i _ => by show 48 + i - 48 = i; omega
/-- no path looks so -/
def badB (d : PyData) : Bool := decide (¬ d.shown = (paD (undg (dg d.shown))).shown)
theorem badB_ok {d : PyData} (h : badB d = true) {q : List Nat} (hq : ∀ i ∈ q, i < 2) : (paD q).shown ≠ d.shown := fun e => by
  have h := of_decide_eq_true h
  rw [← e, undg_paD q hq] at h
  exact h rfl
theorem paD_inj {q r : List Nat} (hq : ∀ i ∈ q, i < 2) (hr : ∀ i ∈ r, i < 2) (e : (paD q).shown = (paD r).shown) : q = r := by
  rw [← undg_paD q hq, e, undg_paD r hr]
theorem paD_inj2 {q r : List Nat} (e : paD q = paD r) : q = r := by
  unfold paD at e
  injection e with e
  have := congrArg (List.map fun d => match d with | PyData.int i => i.toNat | _ => 0) e
  rw [List.map_map, List.map_map] at this
  have id : ∀ l : List Nat, l.map ((fun d => match d with | PyData.int i => i.toNat | _ => 0) ∘ fun (n : Nat) => PyData.int (n : Int)) = l := fun l => by
    conv => rhs; rw [← List.map_id l]
    exact List.map_congr_left fun i _ => rfl
  rw [id, id] at this
  exact this
/-- what is asked of a value in the place of a path -/
structure Gp (d : PyData) : Prop where
  q : QPath d
  r : fRepr d = some (.d (.str d.shown))
  rl : fRepr (.list [d]) = some (.d (.str (PyData.list [d]).shown))
  s : SeqAt.shaped (.str (PyData.list [d]).shown) = true
  c : (∃ q, d = paD q ∧ ∀ i ∈ q, i < 2) ∨ badB d = true
def smP : PyData → Bool
  | .tuple ds => ds.all fun d => match d with
    | .int i => decide (i = 0) || decide (i = 1)
    | _ => false
  | _ => false
theorem smP_ok {d : PyData} (h : smP d = true) : ∃ q, d = paD q ∧ ∀ i ∈ q, i < 2 := by
  cases d with
  | tuple ds =>
    have h : (ds.all fun d => match d with
      | .int i => decide (i = 0) || decide (i = 1)
      | _ => false) = true := h
    induction ds with
    | nil => exact ⟨[], rfl, fun _ h => nomatch h⟩
    | cons d ds ih =>
      rw [List.all_cons, Bool.and_eq_true] at h
      obtain ⟨q, e, hq⟩ := ih h.2 h.2
      cases d with
      | int i =>
        have h1 := h.1
        simp only [Bool.or_eq_true, decide_eq_true_eq] at h1
        unfold paD at e
        injection e with e
        rcases h1 with rfl | rfl
        · exact ⟨0 :: q, by unfold paD; rw [e]; rfl, fun i hi => by rcases List.mem_cons.mp hi with rfl | hi; omega; exact hq i hi⟩
        · exact ⟨1 :: q, by unfold paD; rw [e]; rfl, fun i hi => by rcases List.mem_cons.mp hi with rfl | hi; omega; exact hq i hi⟩
      | _ => exact absurd h.1 Bool.false_ne_true
  | _ => cases h
def qpB (d : PyData) : Bool := !isQ d && (match d with
  | .tuple ds => ds.all fun x => !isQ x
  | _ => true)
def goodB (d : PyData) : Bool := qpB d && (shw d && (shw (.list [d]) && (SeqAt.shaped (.str (PyData.list [d]).shown) && (smP d || badB d))))
theorem goodB_ok {d : PyData} (h : goodB d = true) : Gp d := by
  unfold goodB at h
  simp only [Bool.and_eq_true, Bool.or_eq_true] at h
  obtain ⟨h1, h2, h3, h4, h5⟩ := h
  unfold qpB at h1
  simp only [Bool.and_eq_true, Bool.not_eq_true'] at h1
  refine ⟨⟨h1.1, fun ds e x hx => ?_⟩, by unfold fRepr; rw [if_pos h2], by unfold fRepr; rw [if_pos h3], h4, h5.imp smP_ok id⟩
  subst e
  have := List.all_eq_true.mp h1.2 x hx
  simpa using this
def oddL : List PyData := [.none, .bool true, .bool false, .int 0, .int (-1), .int 100000000000000000000, .str (Str.ofString ""), .str (Str.ofString "a"), .str (Str.ofString "call"), .list [], .dict [], .tuple [.int 0], .tuple [.int 1, .int 0], .tuple [.str (Str.ofString "a"), .tuple []], .tuple [.tuple []],
  .dict [(.str (Str.ofString "a"), .int 1)], .list [.tuple []], .tuple [.bool true], .tuple [.str (Str.ofString "0")], .tuple [.int (-1)], .tuple [.int 2], .tuple [.tuple [.int 0]], .tuple [.none], .tuple [.int 0, .int 0, .int 0, .int 0, .int 0]]
theorem oddL_ok : (oddL.all goodB) = true := by decide +kernel
theorem small_ok : (List.range 26).all (fun n => goodB (paD (List.replicate n 0)) && goodB (paD (List.replicate n 1))) = true := by decide +kernel
end Cp
/-! Ps7: policies and paths shown. -/
namespace Cp
open PySem L2
theorem siz_small {i : Int} (h : 0 ≤ i ∧ i ≤ 1000000000) : siz (.int i) ≤ 32 := by
  show i.natAbs.log2 + 2 ≤ 32
  have h2 : i.natAbs < 2 ^ 30 := by omega
  by_cases hz : i.natAbs = 0
  · rw [hz]; decide
  · have := (Nat.log2_lt hz).mpr h2; omega
theorem siz_nu {n : Option Int} (h : NuOk n) : siz (nuD n) ≤ 32 := by
  cases n with
  | none => exact (by decide : (5 : Nat) ≤ 32)
  | some n => exact siz_small h
theorem siz_sp {g : Span} (h : SpOk g) : siz (spD g) ≤ 80 := by
  cases g with
  | none => exact (by decide : (5 : Nat) ≤ 80)
  | some p =>
    have h1 := siz_small (i := p.1) ⟨h.1, by have := h.2; omega⟩
    have h2 := siz_small (i := p.2) ⟨by have := h.1; have := h.2; omega, h.2.2⟩
    show siz (.int p.1) + 2 + (siz (.int p.2) + 2 + 0) + 3 ≤ 80
    omega
theorem siz_kind (k : String) (h : (Str.ofString k).length ≤ 10) : siz (.str (Str.ofString k)) ≤ 102 := by
  show 10 * (Str.ofString k).length + 2 ≤ 102; omega
theorem Pol.siz_le : ∀ {p : Pol}, p.All Pol.Node → siz p.pd ≤ p.size * 500
  | .call l g b h, hn => by
    obtain ⟨h1, h2, h3, h4⟩ := hn
    have a1 := siz_kind "call" (by decide)
    have a2 := siz_sp h2
    have a3 := siz_sp h3
    have a4 := h1.hi
    show siz (.str (Str.ofString "call")) + 2 + ((10 * l.length + 2) + 2 + (siz (spD g) + 2 + (siz (spD b) + 2 + (5 + 2 + 0)))) + 3 ≤ 1 * 500
    omega
  | .wait n, hn => by
    have a1 := siz_kind "wait" (by decide)
    have a2 := siz_small hn
    show siz (.str (Str.ofString "wait")) + 2 + (siz (.int n) + 2 + 0) + 3 ≤ 1 * 500
    omega
  | .two k a b, hn => by
    have a1 : siz (.str (Str.ofString k.s)) ≤ 102 := siz_kind _ (by cases k <;> decide)
    have a2 := Pol.siz_le hn.2.1
    have a3 := Pol.siz_le hn.2.2
    show siz (.str (Str.ofString k.s)) + 2 + (siz a.pd + 2 + (siz b.pd + 2 + 0)) + 3 ≤ (1 + a.size + b.size) * 500
    omega
  | .num k n a b, hn => by
    have a1 : siz (.str (Str.ofString k.s)) ≤ 102 := siz_kind _ (by cases k <;> decide)
    have a2 := Pol.siz_le hn.2.1
    have a3 := Pol.siz_le hn.2.2
    have a4 := siz_nu hn.1
    show siz (.str (Str.ofString k.s)) + 2 + (siz (nuD n) + 2 + (siz a.pd + 2 + (siz b.pd + 2 + 0))) + 3 ≤ (1 + a.size + b.size) * 500
    omega
  | .retry ps a, hn => by
    have a1 := siz_kind "retry" (by decide)
    have a2 := Pol.siz_le hn.2
    have a3 := sizAll_le (B := 32) (ds := ps.map PyData.int) fun d hd => by
      obtain ⟨x, hx, rfl⟩ := List.mem_map.mp hd
      exact siz_small (hn.1.2 x hx)
    rw [List.length_map] at a3
    have a4 := hn.1.1
    show siz (.str (Str.ofString "retry")) + 2 + ((sizAll (ps.map PyData.int) + 3) + 2 + (siz a.pd + 2 + 0)) + 3 ≤ (1 + a.size) * 500
    omega
  | .tmo n a, hn => by
    have a1 := siz_kind "timeout" (by decide)
    have a2 := Pol.siz_le hn.2
    have a4 := siz_nu hn.1
    show siz (.str (Str.ofString "timeout")) + 2 + (siz (nuD n) + 2 + (siz a.pd + 2 + 0)) + 3 ≤ (1 + a.size) * 500
    omega
theorem show_pol {p : Pol} (hn : p.All Pol.Node) (hs : p.size ≤ 1000) (hd : p.depth ≤ 50) : fRepr p.pd = some (.d (.str p.pd.shown)) := by
  refine fRepr_at (Pol.okS hn) ?_ (by have := p.pd_depth; omega)
  have := Pol.siz_le hn
  rw [szl]; omega
theorem sshp_pol {p : Pol} (hn : p.All Pol.Node) : SeqAt.shaped (.str p.pd.shown) = true := shaped_ok (d := .str p.pd.shown) (shown_sgn (Pol.okS hn)) (Nat.zero_le _)
theorem gp_paD {q : List Nat} (h : ∀ i ∈ q, i < 2) (hl : q.length ≤ 1000) : Gp (paD q) := by
  have ok : okS (paD q) := okSs_of fun d hd => by
    obtain ⟨n, hn, rfl⟩ := List.mem_map.mp hd
    exact log_small (k := 40) (by have := h n hn; omega) (by decide)
  have dp : (paD q).depth ≤ 1 := by
    show PyData.depthAll (q.map fun (n : Nat) => PyData.int (n : Int)) + 1 ≤ 1
    have := depthAll_le (B := 0) (ds := q.map fun (n : Nat) => PyData.int (n : Int)) fun d hd => by
      obtain ⟨x, _, rfl⟩ := List.mem_map.mp hd; exact Nat.le_refl _
    omega
  have sz : siz (paD q) ≤ 40000 := by
    have := sizAll_le (B := 32) (ds := q.map fun (n : Nat) => PyData.int (n : Int)) fun d hd => by
      obtain ⟨n, hn, rfl⟩ := List.mem_map.mp hd
      exact siz_small ⟨by omega, by have := h n hn; omega⟩
    rw [List.length_map] at this
    show sizAll (q.map fun (n : Nat) => PyData.int (n : Int)) + 3 ≤ 40000
    omega
  have okl : okS (.list [paD q]) := ⟨ok, trivial⟩
  refine ⟨qpath_paD q, fRepr_at ok (by rw [szl]; omega) (by omega), fRepr_at okl ?_ ?_, shaped_ok (d := .str (PyData.list [paD q]).shown) (shown_sgn okl) (Nat.zero_le _), .inl ⟨q, rfl, h⟩⟩
  · show siz (paD q) + 2 + 0 + 3 ≤ sizeLine
    rw [szl]; omega
  · show max (paD q).depth 0 + 1 ≤ 60
    omega
theorem gIn_strs (x : Str) (xs : List Str) : gIn false (.str x) (.list (xs.map PyData.str)) = some (decide (x ∈ xs)) := by
  unfold gIn
  simp only [itemsD]
  have : (xs.map PyData.str).all flatD = true := by rw [List.all_map]; exact List.all_eq_true.mpr fun _ _ => rfl
  rw [this]
  simp only [flatD, Bool.true_and, if_true, Bool.false_eq_true, if_false]
  congr 1
  rw [List.any_map, Bool.eq_iff_iff, List.any_eq_true, decide_eq_true_eq]
  exact ⟨fun ⟨y, hy, e⟩ => by
    have e : (y == x) = true := e
    rw [← (by simpa using e : y = x)]; exact hy, fun h => ⟨x, h, by show (x == x) = true; simp⟩⟩
/-- a value among the paths of parts that can be left out -/
def duB (p : Pol) (d : PyData) : Bool := decide (d.shown ∈ ((p.paths.filter (pl p)).map paD).map PyData.shown)
theorem small_paths {p : Pol} {q : List Nat} (h : q ∈ p.paths) : ∀ i ∈ q, i < 2 := by
  obtain ⟨r, hr⟩ := paths_at p q h
  exact at_small hr
theorem duB_yes {p : Pol} {d : PyData} (g : Gp d) (h : duB p d = true) : ∃ q r, d = paD q ∧ p.at q = some r ∧ r.lv = true := by
  have h := of_decide_eq_true h
  rw [List.map_map, List.mem_map] at h
  obtain ⟨q, hq, e⟩ := h
  rw [List.mem_filter] at hq
  obtain ⟨r, hr⟩ := paths_at p q hq.1
  have hl : r.lv = true := by have := hq.2; unfold pl at this; rw [hr] at this; exact this
  have e : (paD q).shown = d.shown := e
  rcases g.c with ⟨q', rfl, hs⟩ | hb
  · cases paD_inj (at_small hr) hs e
    exact ⟨q, r, rfl, hr, hl⟩
  · exact absurd e (badB_ok hb (at_small hr))
theorem duB_no {p r : Pol} {q : List Nat} (h : duB p (paD q) = false) (hr : p.at q = some r) : r.lv = false := by
  cases hl : r.lv with
  | false => rfl
  | true =>
    have : duB p (paD q) = true := by
      unfold duB
      rw [decide_eq_true_eq, List.map_map]
      refine List.mem_map.mpr ⟨q, List.mem_filter.mpr ⟨at_paths q hr, by unfold pl; rw [hr]; exact hl⟩, rfl⟩
    rw [this] at h; cases h
end Cp
/-! Ps8: labels, numbers, forms. -/
namespace Cp
open PySem L2
/-! ### texts sorted -/
theorem srt_strs (ks : List Str) : Srt (ks.map PyData.str) := by
  refine ⟨PySem.W.AllAlike.of fun a b => rfl, .inl (PySem.W.Sortable.others fun a => ⟨nofun, nofun⟩), fun d hd => ?_⟩
  obtain ⟨k, _, rfl⟩ := List.mem_map.mp hd
  exact Nat.zero_le _
theorem le_strs (a b : Str) : PySem.W.dataLe false (fun d => d) (.str a) (.str b) = leS a b := by
  show (!PySem.W.dataLt (.str b) (.str a)) = _
  unfold leS
  rw [PySem.W.dataLt_str]
  by_cases h : a.cps.toList ≤ b.cps.toList
  · rw [decide_eq_true h]
    simp [List.not_lt.mpr h]
  · rw [decide_eq_false h]
    simp [List.not_le.mp h]
theorem fSorted_strs (ks : List Str) : fSorted (.list (ks.map PyData.str)) = some (.n (.l ((sortS ks).map PyData.str))) := by
  unfold fSorted
  simp only [itemsD]
  rw [if_pos (srt_strs ks)]
  unfold sortS
  rw [List.map_mergeSort]
  intro a _ b _
  exact (le_strs a b).symm
theorem sortS_len (ks : List Str) : (sortS ks).length = ks.length := by unfold sortS; rw [List.length_mergeSort]
/-! ### parts -/
def Pol.sub (p : Pol) (q : List Nat) : Pol := (p.at q).getD (.wait 0)
theorem sub_at {p r : Pol} {q : List Nat} (h : p.at q = some r) : p.sub q = r := by unfold Pol.sub; rw [h]; rfl
def labOf : Pol → List Str
  | .call l _ _ _ => [l]
  | _ => []
def partD (p : Pol) (d : PyData) : PyData := match pathP p d with
  | some r => r.pd
  | none => .none
theorem partD_paD {p : Pol} {q : List Nat} (h : q ∈ p.paths) : partD p (paD q) = (p.sub q).pd := by
  obtain ⟨r, hr⟩ := paths_at p q h
  unfold partD
  rw [path_at hr, sub_at hr]
theorem at_cons (p : Pol) (i : Nat) (q : List Nat) : p.at (i :: q) = match p.inn[i]? with
    | some r => r.at q
    | none => none := rfl
theorem sub_two0 (k : Two) (a b : Pol) (q : List Nat) : (Pol.two k a b).sub (0 :: q) = a.sub q := rfl
theorem sub_two1 (k : Two) (a b : Pol) (q : List Nat) : (Pol.two k a b).sub (1 :: q) = b.sub q := rfl
theorem sub_num0 (k : Num) (n : Option Int) (a b : Pol) (q : List Nat) : (Pol.num k n a b).sub (0 :: q) = a.sub q := rfl
theorem sub_num1 (k : Num) (n : Option Int) (a b : Pol) (q : List Nat) : (Pol.num k n a b).sub (1 :: q) = b.sub q := rfl
theorem sub_retry (ps : List Int) (a : Pol) (q : List Nat) : (Pol.retry ps a).sub (0 :: q) = a.sub q := rfl
theorem sub_tmo (n : Option Int) (a : Pol) (q : List Nat) : (Pol.tmo n a).sub (0 :: q) = a.sub q := rfl
theorem subs_labs : ∀ p : Pol, (p.paths.map p.sub).flatMap labOf = p.labs
  | .call l _ _ _ => rfl
  | .wait _ => rfl
  | .two k a b => by
    have ha := subs_labs a
    have hb := subs_labs b
    rw [List.flatMap_map] at ha hb
    simp only [Pol.paths, Pol.labs, List.map_cons, List.map_append, List.map_map, List.flatMap_cons, List.flatMap_append, List.flatMap_map]
    rw [← ha, ← hb]; rfl
  | .num k n a b => by
    have ha := subs_labs a
    have hb := subs_labs b
    rw [List.flatMap_map] at ha hb
    simp only [Pol.paths, Pol.labs, List.map_cons, List.map_append, List.map_map, List.flatMap_cons, List.flatMap_append, List.flatMap_map]
    rw [← ha, ← hb]; rfl
  | .retry ps a => by
    have ha := subs_labs a
    rw [List.flatMap_map] at ha
    simp only [Pol.paths, Pol.labs, List.map_cons, List.map_append, List.map_map, List.flatMap_cons, List.flatMap_append, List.flatMap_map]
    rw [← ha]; rfl
  | .tmo n a => by
    have ha := subs_labs a
    rw [List.flatMap_map] at ha
    simp only [Pol.paths, Pol.labs, List.map_cons, List.map_append, List.map_map, List.flatMap_cons, List.flatMap_append, List.flatMap_map]
    rw [← ha]; rfl
def isCallD : PyData → Bool
  | .tuple (.str k :: _) => decide (k = Str.ofString "call")
  | _ => false
def sndD : PyData → PyData
  | .tuple (_ :: x :: _) => x
  | _ => .none
theorem isCall_pd (p : Pol) : (isCallD p.pd = true ∧ labOf p = (match sndD p.pd with
    | .str l => [l]
    | _ => []) ∧ ∃ l g b h, p = .call l g b h) ∨ (isCallD p.pd = false ∧ labOf p = []) := by
  cases p with
  | call l g b h => exact .inl ⟨by simp [isCallD, Pol.pd], rfl, _, _, _, _, rfl⟩
  | wait n => exact .inr ⟨by simp [isCallD, Pol.pd], rfl⟩
  | two k a b => exact .inr ⟨by cases k <;> simp [isCallD, Pol.pd, Two.s], rfl⟩
  | num k n a b => exact .inr ⟨by cases k <;> simp [isCallD, Pol.pd, Num.s], rfl⟩
  | retry ps a => exact .inr ⟨by simp [isCallD, Pol.pd], rfl⟩
  | tmo n a => exact .inr ⟨by simp [isCallD, Pol.pd], rfl⟩
theorem calls_labs (rs : List Pol) : ((rs.map Pol.pd).filter isCallD).map sndD = (rs.flatMap labOf).map PyData.str := by
  induction rs with
  | nil => rfl
  | cons r rs ih =>
    rcases isCall_pd r with ⟨h1, h2, l, g, b, h, rfl⟩ | ⟨h1, h2⟩
    · rw [List.map_cons, List.filter_cons, h1, if_pos rfl, List.map_cons, ih]; rfl
    · rw [List.map_cons, List.filter_cons, h1, if_neg Bool.false_ne_true, ih, List.flatMap_cons, h2]; rfl
section
variable {st : Sto} {P : Rv → Sto → Prop} {E : Er → Sto → Prop}
theorem parts_pd (p : Pol) : (p.paths.map paD).map (partD p) = (p.paths.map p.sub).map Pol.pd := by
  rw [List.map_map, List.map_map]
  exact List.map_congr_left fun q hq => partD_paD hq
theorem w_labels {p : Pol} (hs : p.size ≤ 1000) (hd : p.depth ≤ 24) (h : ∀ t, P (.d (.tuple ((sortS p.labs).map PyData.str))) (st ++ t)) : WVe noE (semS_labels [.d p.pd] st) P := by
  unfold semS_labels sbS_labels
  rw [W_body]
  refine ⟨rfl, ?_⟩
  have hpl := p.paths_len
  refine seq_cut (fun ρ s => ∃ t, ρ = [some (.d p.pd), some (.d (.list ((p.paths.map p.sub).map Pol.pd))), none, none] ∧ s = st ++ t) ?_ ?_
  · simp
    refine w_paths 25 (by omega) hs (by omega) fun t => ?_
    simp
    refine lc_map (partD p) (fun d' hd' => ?_) (by simp [szl]; omega) ?_
    · obtain ⟨q, hq, rfl⟩ := List.mem_map.mp hd'
      obtain ⟨r, hr⟩ := paths_at p q hq
      simp [wipeE]
      refine w_part_at _ (qpath_paD q) (fun r' hr' => ?_) (fun e => by rw [path_at hr] at e; cases e)
      simp
      unfold partD
      rw [hr']
    · rw [parts_pd]
      simp
  rintro ρ s ⟨t, rfl, rfl⟩
  simp
  refine lc_pick isCallD sndD (fun d' hd' => ?_) (by simp [szl]; omega) ?_
  · obtain ⟨q, _, rfl⟩ := List.mem_map.mp hd'
    simp only [Function.comp]
    generalize p.sub q = r
    cases r with
    | call l g b h => simp [wipeE, Pol.pd, isCallD, sndD]
    | wait n => simp [wipeE, Pol.pd, isCallD, sndD]
    | two k a b => cases k <;> simp [wipeE, Pol.pd, isCallD, sndD, Two.s]
    | num k n a b => cases k <;> simp [wipeE, Pol.pd, isCallD, sndD, Num.s]
    | retry ps a => simp [wipeE, Pol.pd, isCallD, sndD]
    | tmo n a => simp [wipeE, Pol.pd, isCallD, sndD]
  · have e := calls_labs (p.paths.map p.sub)
    rw [subs_labs, List.map_map] at e
    rw [e, fSorted_strs]
    simp
    exact h t
def isNumD : PyData → Bool
  | .tuple (.str k :: _) => decide (k ∈ ["wait", "retry", "fallback", "timeout", "race", "hedge"].map Str.ofString)
  | _ => false
def pairD (p : Pol) (d : PyData) : PyData := .tuple [d, partD p d]
def p2D : PyData → PyData
  | .tuple [_, x] => x
  | _ => .none
def numF : PyData → PyData
  | .tuple [d, x] => .tuple [d, sndD x]
  | _ => .none
/-- the paths of the parts that have a number, with it -/
def numL (p : Pol) : List PyData := (p.paths.filter fun q => isNumD (p.sub q).pd).map fun q => .tuple [paD q, sndD (p.sub q).pd]
theorem numL_is (p : Pol) : (((p.paths.map paD).map (pairD p)).filter fun d => isNumD (p2D d)).map numF = numL p := by
  unfold numL
  rw [List.map_map, List.filter_map, List.map_map]
  have h1 : p.paths.filter ((fun d => isNumD (p2D d)) ∘ (pairD p ∘ paD)) = p.paths.filter fun q => isNumD (p.sub q).pd := List.filter_congr fun q hq => by
    show isNumD (partD p (paD q)) = _
    rw [partD_paD hq]
  rw [h1]
  refine List.map_congr_left fun q hq => ?_
  show PyData.tuple [paD q, sndD (partD p (paD q))] = _
  rw [partD_paD (List.mem_filter.mp hq).1]
theorem numL_len (p : Pol) : (numL p).length ≤ p.size := by
  unfold numL
  rw [List.length_map, ← p.paths_len]
  exact List.length_filter_le _ _
theorem tkAS (s t : Sto) : List.take (s.length + t.length) (s ++ t) = s ++ t := List.take_of_length_le (by simp)
theorem w_number_of {a b : PyData} {r : List PyData} (h : P (.d b) st) : WVe noE (semS_number_of [.d (.tuple (a :: b :: r))] st) P := by
  unfold semS_number_of sbS_number_of
  rw [W_body]
  simp
  exact h
theorem w_numbers {p : Pol} (hs : p.size ≤ 1000) (hd : p.depth ≤ 24) (h : ∀ t, P (.d (.tuple (numL p))) (st ++ t)) : WVe noE (semS_numbers [.d p.pd] st) P := by
  unfold semS_numbers sbS_numbers
  rw [W_body]
  refine ⟨rfl, ?_⟩
  have hpl := p.paths_len
  refine seq_cut (fun ρ s => ∃ t, ρ = [some (.d p.pd), some (.d (.list ((p.paths.map paD).map (pairD p)))), none, none] ∧ s = st ++ t) ?_ ?_
  · simp
    refine w_paths 25 (by omega) hs (by omega) fun t => ?_
    simp
    refine lc_map (pairD p) (fun d' hd' => ?_) (by simp [szl]; omega) ?_
    · obtain ⟨q, hq, rfl⟩ := List.mem_map.mp hd'
      obtain ⟨r, hr⟩ := paths_at p q hq
      simp [wipeE, szl]
      refine w_part_at _ (qpath_paD q) (fun r' hr' => ?_) (fun e => by rw [path_at hr] at e; cases e)
      simp
      unfold pairD partD
      rw [hr']
    · simp
  rintro ρ s ⟨t, rfl, rfl⟩
  simp
  refine lc_pick (fun d => isNumD (p2D d)) numF (fun d' hd' => ?_) (by simp [szl]; omega) ?_
  · obtain ⟨q, hq, rfl⟩ := List.mem_map.mp hd'
    have e : (pairD p ∘ paD) q = .tuple [paD q, (p.sub q).pd] := by
      show PyData.tuple [paD q, partD p (paD q)] = _
      rw [partD_paD hq]
    rw [e]
    generalize p.sub q = r
    cases r with
    | call l g b h => simp [wipeE, Pol.pd, isNumD, p2D, numF, sndD, gIn, itemsD, flatD, eqF]
    | wait n => simp [wipeE, Pol.pd, isNumD, p2D, numF, sndD, gIn, itemsD, flatD, eqF]; exact w_number_of (by simp [szl, tkAS])
    | two k a b => cases k <;> simp [wipeE, Pol.pd, isNumD, p2D, numF, sndD, Two.s, gIn, itemsD, flatD, eqF]
    | num k n a b => cases k <;> (simp [wipeE, Pol.pd, isNumD, p2D, numF, sndD, Num.s, gIn, itemsD, flatD, eqF]; exact w_number_of (by simp [szl, tkAS]))
    | retry ps a => simp [wipeE, Pol.pd, isNumD, p2D, numF, sndD, gIn, itemsD, flatD, eqF]; exact w_number_of (by simp [szl, tkAS])
    | tmo n a => simp [wipeE, Pol.pd, isNumD, p2D, numF, sndD, gIn, itemsD, flatD, eqF]; exact w_number_of (by simp [szl, tkAS])
  · have e := numL_is p
    rw [List.map_map] at e
    rw [e]
    exact h t
/-! ### calls -/
def Pol.cls : Pol → List (Str × PyData)
  | .call l g b h => [(l, (Pol.call l g b h).pd)]
  | .wait _ => []
  | .two _ a b => a.cls ++ b.cls
  | .num _ _ a b => a.cls ++ b.cls
  | .retry _ a => a.cls
  | .tmo _ a => a.cls
theorem cls_labs : ∀ p : Pol, p.cls.map (·.1) = p.labs
  | .call _ _ _ _ => rfl
  | .wait _ => rfl
  | .two _ a b => by simp [Pol.cls, Pol.labs, cls_labs a, cls_labs b]
  | .num _ _ a b => by simp [Pol.cls, Pol.labs, cls_labs a, cls_labs b]
  | .retry _ a => by simp [Pol.cls, Pol.labs, cls_labs a]
  | .tmo _ a => by simp [Pol.cls, Pol.labs, cls_labs a]
def dkv (cs : List (Str × PyData)) : List (PyData × PyData) := cs.map fun x => (.str x.1, x.2)
theorem dkv_flat (cs : List (Str × PyData)) : flK (dkv cs) = true := by
  unfold flK dkv
  rw [List.all_map]
  exact List.all_eq_true.mpr fun _ _ => rfl
theorem dkv_len (cs : List (Str × PyData)) : (dkv cs).length = cs.length := List.length_map _
theorem dkv_put (cs : List (Str × PyData)) (x : Str × PyData) (h : x.1 ∉ cs.map (·.1)) : putD (dkv cs) (.str x.1) x.2 = dkv (cs ++ [x]) := by
  unfold putD
  rw [if_neg]
  · unfold dkv; rw [List.map_append]; rfl
  · rw [List.any_eq_true]
    rintro ⟨y, hy, e⟩
    unfold dkv at hy
    obtain ⟨z, hz, rfl⟩ := List.mem_map.mp hy
    rw [keyE_str] at e
    exact h (by rw [← of_decide_eq_true e]; exact List.mem_map_of_mem hz)
theorem dkv_merge : ∀ (ds cs : List (Str × PyData)), ((cs ++ ds).map (·.1)).Nodup → mergeD (dkv cs) (dkv ds) = dkv (cs ++ ds)
  | [], cs, _ => by rw [List.append_nil]; rfl
  | x :: ds, cs, h => by
    show mergeD (putD (dkv cs) (.str x.1) x.2) (dkv ds) = _
    rw [dkv_put cs x (by
      rw [List.map_append, List.map_cons, List.nodup_append] at h
      exact fun hm => h.2.2 x.1 hm x.1 (List.mem_cons_self ..) rfl), dkv_merge ds (cs ++ [x]) (by rw [List.append_assoc]; exact h), List.append_assoc]
    rfl
theorem dkv_keys (cs : List (Str × PyData)) : keysS (dkv cs) = some (cs.map (·.1)) := by
  induction cs with
  | nil => rfl
  | cons x cs ih =>
    show (keysS (dkv cs)).map (x.1 :: ·) = _
    rw [ih]; rfl
theorem isGone_dkv (cs : List (Str × PyData)) : isGone (.m (dkv cs)) = false := by
  cases cs with
  | nil => rfl
  | cons x cs => rfl
theorem inn_sz {p q : Pol} (h : q ∈ p.inn) : q.size < p.size := by
  cases p <;> simp [Pol.inn] at h
  · rcases h with rfl | rfl <;> simp [Pol.size] <;> omega
  · rcases h with rfl | rfl <;> simp [Pol.size] <;> omega
  · subst h; simp [Pol.size]
  · subst h; simp [Pol.size]
/-- the dict of a policy's calls, under their labels -/
theorem w_calls : ∀ (f : Nat) {p : Pol} {st : Sto} {P : Rv → Sto → Prop}, p.depth ≤ f → p.labs.Nodup → p.size ≤ 1000 → P (.n (.m (dkv p.cls))) st → WVe noE (semS_calls f [.d p.pd] st) fun r s => back st.length r s P
  | 0, p, _, _, h, _, _, _ => by have := dp_pos p; omega
  | f + 1, p, st, P, hf, hl, hs, h => by
    show WVe noE (bodyF 3 1 (sbS_calls (semS_calls f)) _ _) _
    unfold sbS_calls
    rw [W_body]
    refine ⟨rfl, ?_⟩
    by_cases hc : p.kind = "call"
    · cases p with
      | call l g b hh =>
        have hk : (keysD [(PyData.str l, (Pol.call l g b hh).pd)]).isSome = true := rfl
        simp [Pol.pd] at hk
        simp [Pol.pd, mDct, hk]
        exact h
      | wait n => simp [Pol.kind] at hc
      | two k a b => cases k <;> simp [Pol.kind, Two.s] at hc
      | num k n a b => cases k <;> simp [Pol.kind, Num.s] at hc
      | retry ps a => simp [Pol.kind] at hc
      | tmo n a => simp [Pol.kind] at hc
    · have e : p.cls = p.inn.flatMap Pol.cls := by cases p <;> simp [Pol.cls, Pol.inn, Pol.kind] at hc ⊢
      refine seq_cut (fun ρ s => ρ = [some (.d p.pd), none, none] ∧ s = st) ?_ ?_
      · obtain ⟨r, er⟩ := inn_pd p
        rw [er]
        simp [hc]
      rintro ρ s ⟨rfl, rfl⟩
      refine seq_cut (fun ρ s' => ρ = [some (.d p.pd), some (.c s.length), none] ∧ s' = s ++ [.m []]) (by simp [mD0]) ?_
      rintro ρ s' ⟨rfl, rfl⟩
      refine seq_cut (fun ρ s' => (∃ x, ρ = [some (.d p.pd), some (.c s.length), x]) ∧ s' = s ++ [.m (dkv p.cls)]) ?_ ?_
      · rw [W_sFor]
        simp
        refine w_linner ?_
        simp
        refine forGo_by (I := fun i ρ s' => (∃ x, ρ = [some (.d p.pd), some (.c s.length), x]) ∧ s' = s ++ [.m (dkv ((p.inn.take i).flatMap Pol.cls))]) _ 0 ⟨⟨_, rfl⟩, rfl⟩ (fun _ _ _ _ => trivial) ?_ ?_
        · rintro i d ρ s' hd ⟨⟨x, rfl⟩, rfl⟩
          rw [List.getElem?_map] at hd
          obtain ⟨q, hq, rfl⟩ := Option.map_eq_some_iff.mp hd
          have hqm := List.mem_of_getElem? hq
          have hqd := inn_dp hqm
          rw [Nat.zero_add]
          have hall : ((p.inn.take i).flatMap Pol.cls ++ q.cls) = (p.inn.take (i + 1)).flatMap Pol.cls := by rw [List.take_succ, hq, List.flatMap_append]; simp
          have hpre : ((p.inn.take (i + 1)).flatMap Pol.cls).Sublist p.cls := by
            rw [e]
            conv => rhs; rw [← List.take_append_drop (i + 1) p.inn, List.flatMap_append]
            exact List.sublist_append_left _ _
          have hnd : (((p.inn.take (i + 1)).flatMap Pol.cls).map (·.1)).Nodup := by
            refine List.Nodup.sublist (hpre.map _) ?_
            rw [cls_labs]; exact hl
          have hln : ((p.inn.take (i + 1)).flatMap Pol.cls).length ≤ p.size := by
            have h1 := hpre.length_le
            have h2 : p.cls.length = p.labs.length := by rw [← cls_labs, List.length_map]
            have h3 := labs_le p
            omega
          rw [← hall] at hnd hln ⊢
          clear hall hpre
          generalize (p.inn.take i).flatMap Pol.cls = pre at hnd hln ⊢
          simp [dkv_flat, isGone_dkv]
          have hlen : s.length + 1 = (s ++ [Cl.m (dkv pre)]).length := by simp
          rw [hlen]
          have hq1 : q.labs.Nodup := by
            rw [← cls_labs]
            refine List.Nodup.sublist ?_ hnd
            rw [List.map_append]
            exact List.sublist_append_right _ _
          have hq2 : q.size ≤ 1000 := by have := inn_sz hqm; omega
          refine w_calls f (by omega) hq1 hq2 ?_
          rw [List.length_append] at hln
          simp [dkv_flat, isGone_dkv, dkv_len, szl, dkv_merge _ _ hnd]
          omega
        · rintro ρ s' ⟨⟨x, rfl⟩, rfl⟩
          rw [List.length_map, Nat.zero_add, List.take_length, ← e]
          exact ⟨⟨_, rfl⟩, rfl⟩
      rintro ρ s' ⟨⟨x, rfl⟩, rfl⟩
      simp [isGone_dkv]
      exact h
theorem fSortedD_dkv {cs : List (Str × PyData)} (h : cs.length < 64) : fSortedD (.dict (dkv cs)) = some (.n (.l ((sortS (cs.map (·.1))).map PyData.str))) := by
  unfold fSortedD
  simp only [dkv_keys]
  rw [if_pos (by rw [List.length_map]; exact h)]
/-! ### forms -/
def Two.t (k : Two) : PyData := .str (Str.ofString k.s)
def Num.t (k : Num) : PyData := .str (Str.ofString k.s)
/-- a policy with its numbers off -/
def Pol.wn : Pol → PyData
  | .call l g b h => (Pol.call l g b h).pd
  | .wait _ => .tuple [.str (Str.ofString "wait"), .none]
  | .two k a b => .tuple [k.t, a.wn, b.wn]
  | .num k _ a b => .tuple [k.t, .none, a.wn, b.wn]
  | .retry _ a => .tuple [.str (Str.ofString "retry"), .none, a.wn]
  | .tmo _ a => .tuple [.str (Str.ofString "timeout"), .none, a.wn]
def Pol.bare : Pol → PyData
  | .call l g b h => .list [.str (Str.ofString "call"), .str l, spD g, spD b, .bool h]
  | .wait _ => .list [.str (Str.ofString "wait")]
  | .two k a b => .list [k.t, a.bare, b.bare]
  | .num k _ a b => .list [k.t, a.bare, b.bare]
  | .retry _ a => .list [.str (Str.ofString "retry"), a.bare]
  | .tmo _ a => .list [.str (Str.ofString "timeout"), a.bare]
theorem w_wn : ∀ (f : Nat) {p : Pol} {st : Sto} {P : Rv → Sto → Prop}, p.depth ≤ f → P (.d p.wn) st → WVe noE (semS_without_numbers f [.d p.pd] st) P
  | 0, p, _, _, h, _ => by have := dp_pos p; omega
  | f + 1, p, st, P, hf, h => by
    show WVe noE (bodyF 4 1 (sbS_without_numbers (semS_without_numbers f)) _ _) _
    unfold sbS_without_numbers
    rw [W_body]
    refine ⟨rfl, ?_⟩
    have hb : p.inn.length ≤ 2 := by cases p <;> simp [Pol.inn]
    refine seq_cut (fun ρ s => ρ = [some (.d p.pd), some (.d (.list (p.inn.map Pol.wn))), none, none] ∧ s = st) ?_ ?_
    · simp
      refine w_inner ?_
      simp
      refine lcGo_by (I := fun i s a => s = st ∧ a = (p.inn.take i).map Pol.wn) _ 0 [] ⟨rfl, rfl⟩ (fun _ _ _ _ => trivial) ?_ ?_
      · rintro i d s a hd ⟨rfl, rfl⟩
        rw [List.getElem?_map] at hd
        obtain ⟨q, hq, rfl⟩ := Option.map_eq_some_iff.mp hd
        have hqd := inn_dp (List.mem_of_getElem? hq)
        simp [wipeE]
        refine w_wn f (by omega) ?_
        simp
        have hi : i < p.inn.length := (List.getElem?_eq_some_iff.mp hq).1
        refine ⟨by rw [szl]; omega, ?_⟩
        rw [List.take_succ, List.getElem?_map, hq]; rfl
      · rintro s a ⟨rfl, rfl⟩
        rw [List.length_map, Nat.zero_add, List.take_length]
        simp
    rintro ρ s ⟨rfl, rfl⟩
    refine seq_cut (fun ρ s' => ρ = [some (.d p.pd), some (.d (.list (p.inn.map Pol.wn))), some (.d (.tuple (p.hd ++ p.inn.map Pol.wn))), none] ∧ s' = s) ?_ ?_
    · simp
      refine w_with_inner (xs := p.inn.map Pol.wn) rfl (List.length_map _) ?_
      simp
    rintro ρ s' ⟨rfl, rfl⟩
    cases p with
    | call l g b hh => simp [Pol.hd, Pol.inn, gIn, itemsD, flatD, eqF]; exact h
    | wait n =>
      have hc : cutD [PyData.str (Str.ofString "wait"), PyData.int n] (some 2) none = [] := rfl
      simp [Pol.hd, Pol.inn, gIn, itemsD, flatD, eqF, szl, hc]; exact h
    | two k a b => cases k <;> simp [Pol.hd, Pol.inn, Two.s, gIn, itemsD, flatD, eqF] <;> exact h
    | num k n a b => cases k <;> simp [Pol.hd, Pol.inn, Num.s, gIn, itemsD, flatD, eqF, szl, cut4] <;> exact h
    | retry ps a => simp [Pol.hd, Pol.inn, gIn, itemsD, flatD, eqF, szl, cut3]; exact h
    | tmo n a => simp [Pol.hd, Pol.inn, gIn, itemsD, flatD, eqF, szl, cut3]; exact h
theorem wn_okS : ∀ {p : Pol}, p.All Pol.Node → okS p.wn
  | .call l g b h, hn => Pol.okS (p := .call l g b h) hn
  | .wait n, _ => ⟨sgn_ofS _, trivial, trivial⟩
  | .two k a b, hn => ⟨sgn_ofS _, wn_okS hn.2.1, wn_okS hn.2.2, trivial⟩
  | .num k n a b, hn => ⟨sgn_ofS _, trivial, wn_okS hn.2.1, wn_okS hn.2.2, trivial⟩
  | .retry ps a, hn => ⟨sgn_ofS _, trivial, wn_okS hn.2, trivial⟩
  | .tmo n a, hn => ⟨sgn_ofS _, trivial, wn_okS hn.2, trivial⟩
theorem wn_depth : ∀ p : Pol, p.wn.depth ≤ p.depth + 1
  | .call l g b h => (Pol.call l g b h).pd_depth
  | .wait n => by simp [Pol.wn, PyData.depth, PyData.depthAll, Pol.depth]
  | .two k a b => by
    have := wn_depth a
    have := wn_depth b
    simp [Pol.wn, PyData.depth, PyData.depthAll, Pol.depth, Two.t]; omega
  | .num k n a b => by
    have := wn_depth a
    have := wn_depth b
    simp [Pol.wn, PyData.depth, PyData.depthAll, Pol.depth, Num.t]; omega
  | .retry ps a => by
    have := wn_depth a
    simp [Pol.wn, PyData.depth, PyData.depthAll, Pol.depth]; omega
  | .tmo n a => by
    have := wn_depth a
    simp [Pol.wn, PyData.depth, PyData.depthAll, Pol.depth]; omega
theorem bare_okS : ∀ {p : Pol}, p.All Pol.Node → okS p.bare
  | .call l g b h, hn => Pol.okS (p := .call l g b h) hn
  | .wait n, _ => ⟨sgn_ofS _, trivial⟩
  | .two k a b, hn => ⟨sgn_ofS _, bare_okS hn.2.1, bare_okS hn.2.2, trivial⟩
  | .num k n a b, hn => ⟨sgn_ofS _, bare_okS hn.2.1, bare_okS hn.2.2, trivial⟩
  | .retry ps a, hn => ⟨sgn_ofS _, bare_okS hn.2, trivial⟩
  | .tmo n a, hn => ⟨sgn_ofS _, bare_okS hn.2, trivial⟩
theorem bare_depth : ∀ p : Pol, p.bare.depth ≤ p.depth + 1
  | .call l g b h => (Pol.call l g b h).pd_depth
  | .wait n => by simp [Pol.bare, PyData.depth, PyData.depthAll, Pol.depth]
  | .two k a b => by
    have := bare_depth a
    have := bare_depth b
    simp [Pol.bare, PyData.depth, PyData.depthAll, Pol.depth, Two.t]; omega
  | .num k n a b => by
    have := bare_depth a
    have := bare_depth b
    simp [Pol.bare, PyData.depth, PyData.depthAll, Pol.depth, Num.t]; omega
  | .retry ps a => by
    have := bare_depth a
    simp [Pol.bare, PyData.depth, PyData.depthAll, Pol.depth]; omega
  | .tmo n a => by
    have := bare_depth a
    simp [Pol.bare, PyData.depth, PyData.depthAll, Pol.depth]; omega
/-- of one form -/
def fmB (p q : Pol) : Bool := PyData.eqv p.wn q.wn
theorem w_same {p q : Pol} (hp : p.All Pol.Node) (hq : q.All Pol.Node) (dp : p.depth ≤ 25) (dq : q.depth ≤ 25) (h : P (.d (.bool (fmB p q))) st) : WVe noE (semS_same_form [.d p.pd, .d q.pd] st) P := by
  unfold semS_same_form sbS_same_form
  rw [W_body]
  simp
  refine w_wn 25 dp ?_
  simp
  refine w_wn 25 dq ?_
  have e := gEq_at (wn_okS hp) (wn_okS hq) (by have := wn_depth p; omega) (by have := wn_depth q; omega)
  simp [e]
  exact h
theorem eqvT (a b : PyData) (xs ys : List PyData) : PyData.eqvAll (a :: xs) (b :: ys) = (PyData.eqv a b && PyData.eqvAll xs ys) := by rw [PyData.eqvAll]
theorem eqvN (a : PyData) (xs : List PyData) : PyData.eqvAll (a :: xs) [] = false := by rw [PyData.eqvAll]
theorem eqvM (a : PyData) (xs : List PyData) : PyData.eqvAll [] (a :: xs) = false := by rw [PyData.eqvAll]
theorem eqvO : PyData.eqvAll [] [] = true := by rw [PyData.eqvAll]
theorem eqvTup (xs ys : List PyData) : PyData.eqv (.tuple xs) (.tuple ys) = PyData.eqvAll xs ys := by rw [PyData.eqv]
theorem eqvLst (xs ys : List PyData) : PyData.eqv (.list xs) (.list ys) = PyData.eqvAll xs ys := by rw [PyData.eqv]
theorem bare_wn : ∀ (p q : Pol), PyData.eqv p.bare q.bare = fmB p q
  | .call l g b h, q => by
    unfold fmB
    cases q with
    | call _ _ _ _ => simp only [Pol.bare, Pol.wn, Pol.pd, eqvTup, eqvLst]
    | two k _ _ => cases k <;> simp [Pol.bare, Pol.wn, Pol.pd, eqvTup, eqvLst, eqvT, Two.t, Two.s, eqv_str]
    | num k _ _ _ => cases k <;> simp [Pol.bare, Pol.wn, Pol.pd, eqvTup, eqvLst, eqvT, Num.t, Num.s, eqv_str]
    | _ => simp [Pol.bare, Pol.wn, Pol.pd, eqvTup, eqvLst, eqvT, eqv_str]
  | .wait n, q => by
    unfold fmB
    cases q with
    | two k _ _ => cases k <;> simp [Pol.bare, Pol.wn, Pol.pd, eqvTup, eqvLst, eqvT, Two.t, Two.s, eqv_str]
    | num k _ _ _ => cases k <;> simp [Pol.bare, Pol.wn, Pol.pd, eqvTup, eqvLst, eqvT, Num.t, Num.s, eqv_str]
    | wait _ => rfl
    | _ => simp [Pol.bare, Pol.wn, Pol.pd, eqvTup, eqvLst, eqvT, eqv_str]
  | .two k a b, q => by
    unfold fmB
    cases q with
    | two k2 a2 b2 =>
      have h1 := bare_wn a a2
      have h2 := bare_wn b b2
      unfold fmB at h1 h2
      simp only [Pol.bare, Pol.wn, eqvTup, eqvLst, eqvT, h1, h2]
    | num k2 _ _ _ => cases k <;> cases k2 <;> simp [Pol.bare, Pol.wn, Pol.pd, eqvTup, eqvLst, eqvT, Two.t, Two.s, Num.t, Num.s, eqv_str]
    | _ => cases k <;> simp [Pol.bare, Pol.wn, Pol.pd, eqvTup, eqvLst, eqvT, Two.t, Two.s, eqv_str]
  | .num k n a b, q => by
    unfold fmB
    cases q with
    | num k2 n2 a2 b2 =>
      have h1 := bare_wn a a2
      have h2 := bare_wn b b2
      unfold fmB at h1 h2
      have h0 : PyData.eqv .none .none = true := rfl
      simp only [Pol.bare, Pol.wn, eqvTup, eqvLst, eqvT, h1, h2, h0, Bool.true_and]
    | two k2 _ _ => cases k <;> cases k2 <;> simp [Pol.bare, Pol.wn, Pol.pd, eqvTup, eqvLst, eqvT, Two.t, Two.s, Num.t, Num.s, eqv_str]
    | _ => cases k <;> simp [Pol.bare, Pol.wn, Pol.pd, eqvTup, eqvLst, eqvT, Num.t, Num.s, eqv_str]
  | .retry ps a, q => by
    unfold fmB
    cases q with
    | retry ps2 a2 =>
      have h1 := bare_wn a a2
      unfold fmB at h1
      have h0 : PyData.eqv .none .none = true := rfl
      simp only [Pol.bare, Pol.wn, eqvTup, eqvLst, eqvT, h1, h0, Bool.true_and]
    | two k _ _ => cases k <;> simp [Pol.bare, Pol.wn, Pol.pd, eqvTup, eqvLst, eqvT, Two.t, Two.s, eqv_str]
    | num k _ _ _ => cases k <;> simp [Pol.bare, Pol.wn, Pol.pd, eqvTup, eqvLst, eqvT, Num.t, Num.s, eqv_str]
    | _ => simp [Pol.bare, Pol.wn, Pol.pd, eqvTup, eqvLst, eqvT, eqv_str]
  | .tmo n a, q => by
    unfold fmB
    cases q with
    | tmo n2 a2 =>
      have h1 := bare_wn a a2
      unfold fmB at h1
      have h0 : PyData.eqv .none .none = true := rfl
      simp only [Pol.bare, Pol.wn, eqvTup, eqvLst, eqvT, h1, h0, Bool.true_and]
    | two k _ _ => cases k <;> simp [Pol.bare, Pol.wn, Pol.pd, eqvTup, eqvLst, eqvT, Two.t, Two.s, eqv_str]
    | num k _ _ _ => cases k <;> simp [Pol.bare, Pol.wn, Pol.pd, eqvTup, eqvLst, eqvT, Num.t, Num.s, eqv_str]
    | _ => simp [Pol.bare, Pol.wn, Pol.pd, eqvTup, eqvLst, eqvT, eqv_str]
end
end Cp
/-! Ps9: is_policy where labels may come twice; numbers put and put back. -/
namespace Cp
open PySem L2
section
variable {st : Sto} {P : Rv → Sto → Prop} {E : Er → Sto → Prop}
theorem seen_mem (l : Str) : ∀ xs : List Str, l ∈ xs → lookD (seenD xs) (.str l) = some (.bool true)
  | [], h => by cases h
  | x :: xs, h => by
    show (if keyE (.str x) (.str l) = true then some (.bool true) else lookD (seenD xs) (.str l)) = _
    rw [keyE_str]
    by_cases e : x = l
    · rw [if_pos (by simpa using e)]
    · rw [if_neg (by simpa using e)]
      exact seen_mem l xs ((List.mem_cons.mp h).resolve_left fun z => e z.symm)
/-- the walk's state -/
def Iib (lb : List Str) (d : PyData) (st : Sto) (tot : Nat) (k : Nat) (ρ : En) (s : Sto) : Prop := ∃ (stk : Stk) (seen : List Str) (many : Nat) (x4 x5 x6 : Option Vl),
  ρ = [some (.d d), some (.c st.length), some (.c (st.length + 1)), some (.d (.int (many : Int))), x4, x5, x6] ∧ s = st ++ [.l (stkD stk), .m (seenD seen)] ∧ k = stkS stk ∧ many + stkS stk ≤ tot ∧ tot ≤ 40 ∧
  (∀ x ∈ stk, x.1.All Pol.Node ∧ x.2 + x.1.depth ≤ 21) ∧ (seen.Nodup ∧ ((stk.flatMap (fun x => x.1.labs) ++ seen).Nodup ↔ lb.Nodup)) ∧ seen.length ≤ many ∧ stk.length ≤ stkS stk
theorem w_is_policyB {p : Pol} (hnd0 : p.All Pol.Node) (hsz0 : p.size ≤ 40) (hdp0 : p.depth ≤ 20) (h : ∀ t, P (.d (.bool (decide p.labs.Nodup))) (st ++ t)) : WVe noE (semS_is_policy [.d p.pd] st) P := by
  unfold semS_is_policy sbS_is_policy
  rw [W_body]
  refine ⟨rfl, ?_⟩
  refine seq_cut (Iib p.labs p.pd st p.size p.size) ?_ ?_
  · simp [mD0, szl]
    exact ⟨[(p, 1)], [], 0, none, none, none, by simp, by simp [stkD, seenD], by simp [stkS], by simp [stkS], hsz0, fun x hx => by
      rw [List.mem_singleton] at hx; subst hx; have := hdp0; exact ⟨hnd0, by show 1 + p.depth ≤ 21; omega⟩, ⟨List.nodup_nil, by simp⟩, Nat.le_refl _, by have := Pol.size_pos p; simpa [stkS] using this⟩
  intro ρ s hI
  refine seq_cut (fun ρ s => p.labs.Nodup ∧ ∃ t, s = st ++ t) ?_ ?_
  · refine whGo_two (Iib p.labs p.pd st p.size) (n := 1048576) (m := p.size) (by have := hsz0; omega) hI ?_ ?_
    · rintro k ρ s ⟨stk, seen, many, x4, x5, x6, rfl, rfl, hk, hm, h40, hall, hnd, hsl, hsz⟩
      have e1 := gNe_lnil (stk_ok hall)
      have e2 : cmp2 gNe (st ++ [Cl.l (stkD stk), .m (seenD seen)]) (.c st.length) (.d (.list [])) = some (!(stkD stk).isEmpty) := by
        rw [cmp2_of (a := .list (stkD stk)) (b := .list []) (by simp) rfl]; exact e1
      simp [e2]
      cases stk with
      | nil => exact ⟨fun hne => absurd rfl hne, fun _ => by have := hnd.2; simp at this; exact this.mp hnd.1⟩
      | cons y ys => exact ⟨fun _ => by simp at hsz; omega, fun he => by simp [stkD] at he⟩
    · rintro k ρ s ⟨stk, seen, many, x4, x5, x6, rfl, rfl, hk, hm, h40, hall, hnd, hsl, hsz⟩
      obtain ⟨ys, y, rfl⟩ : ∃ ys y, stk = ys ++ [y] := by
        rcases List.eq_nil_or_concat stk with e | ⟨ys, y, e⟩
        · subst e; simp [stkS] at hk
        · exact ⟨ys, y, by rw [e, List.concat_eq_append]⟩
      obtain ⟨q, dp⟩ := y
      obtain ⟨hq, hdp⟩ := hall (q, dp) (by simp)
      have hq1 := dp_pos q
      have hqs := Pol.size_pos q
      have hsum : stkS (ys ++ [(q, dp)]) = stkS ys + q.size := by rw [stkS_app]; simp [stkS]
      have eD : stkD (ys ++ [(q, dp)]) = stkD ys ++ [.tuple [q.pd, .int (dp : Int)]] := by unfold stkD; rw [List.map_append]; rfl
      simp only at hq hdp
      rw [eD]
      -- part, depth = waiting.pop()
      refine seq_cut (fun ρ s => ρ = [some (.d p.pd), some (.c st.length), some (.c (st.length + 1)), some (.d (.int (many : Int))), some (.d q.pd), some (.d (.int (dp : Int))), x6] ∧ s = st ++ [.l (stkD ys), .m (seenD seen)]) ?_ ?_
      · simp
      rintro ρ s ⟨rfl, rfl⟩
      refine seq_cut (fun ρ s => ρ = [some (.d p.pd), some (.c st.length), some (.c (st.length + 1)), some (.d (.int (many + 1 : Nat))), some (.d q.pd), some (.d (.int (dp : Int))), x6] ∧ s = st ++ [.l (stkD ys), .m (seenD seen)]) ?_ ?_
      · simp
      rintro ρ s ⟨rfl, rfl⟩
      refine seq_cut (fun ρ s => ρ = [some (.d p.pd), some (.c st.length), some (.c (st.length + 1)), some (.d (.int (many + 1 : Nat))), some (.d q.pd), some (.d (.int (dp : Int))), x6] ∧ s = st ++ [.l (stkD ys), .m (seenD seen)]) ?_ ?_
      · have c1 : ¬ ((40 : Int) < (many : Int) + 1) := by omega
        have c2 : ¬ ((20 : Int) < (dp : Int)) := by omega
        simp [c1, c2]
        exact w_has_form hq (by omega) (by simp)
      rintro ρ s ⟨rfl, rfl⟩
      have hlen : (stkD ys).length ≤ 40 := by
        have := size_ge ys
        unfold stkD; rw [List.length_map]; omega
      have hin := inn_size q (dp + 1)
      have hil : q.inn.length ≤ 2 := by cases q <;> simp [Pol.inn]
      -- the last step, by what seen is then
      have fin : ∀ seen' : List Str, seen'.length ≤ many + 1 → (seen'.Nodup ∧ ((((ys ++ innS q (dp + 1)).flatMap fun x => x.1.labs) ++ seen').Nodup ↔ p.labs.Nodup)) →
          WSe noE ((sExp (mExt (mN 1) (mLc (iOf (mCall semP_inner (aCons (mV (mN 4)) aNil))) (gNm 6) ttY (mTup (aCons (mV (mN 6)) (aCons (mV (mBin fAdd (mN 5) (mK (.int 1)))) aNil))) [6])))
            [some (.d p.pd), some (.c st.length), some (.c (st.length + 1)), some (.d (.int (many + 1 : Nat))), some (.d q.pd), some (.d (.int (dp : Int))), x6] (st ++ [.l (stkD ys), .m (seenD seen')]))
            (Iib p.labs p.pd st p.size k) (fun ρ s => p.labs.Nodup ∧ ∃ t, s = st ++ t) (Iib p.labs p.pd st p.size k) P := by
        intro seen' hs1 hs2
        simp
        refine w_inner ?_
        simp
        refine lc_map (fun d => .tuple [d, .int ((dp + 1 : Nat) : Int)]) (fun d hd => ?_) (by rw [List.length_map, szl]; omega) ?_
        · simp [wipeE, szl]
        · have e3 : ((q.inn.map Pol.pd).map fun d => PyData.tuple [d, .int ((dp + 1 : Nat) : Int)]) = stkD (innS q (dp + 1)) := by
            unfold stkD innS
            rw [List.map_map, List.map_map]; rfl
          rw [e3]
          have hl2 : (stkD ys).length + (stkD (innS q (dp + 1))).length ≤ sizeLine := by
            unfold innS
            rw [szl]; unfold stkD; rw [List.length_map, List.length_map, List.length_map]; unfold stkD at hlen; rw [List.length_map] at hlen; omega
          simp [fExt, itemsD, hl2]
          refine ⟨ys ++ innS q (dp + 1), seen', many + 1, _, _, _, rfl, by unfold stkD; rw [List.map_append], ?_, ?_, h40, ?_, hs2, hs1, size_ge _⟩
          · rw [stkS_app]; omega
          · rw [stkS_app]; omega
          · intro x hx
            rcases List.mem_append.mp hx with hx | hx
            · exact hall x (List.mem_append_left _ hx)
            · unfold innS at hx
              obtain ⟨o, ho, rfl⟩ := List.mem_map.mp hx
              have := inn_dp ho
              exact ⟨hq.inn ho, by show dp + 1 + o.depth ≤ 21; omega⟩
      have hnd1 : seen.Nodup ∧ ((ys.flatMap (fun x => x.1.labs) ++ q.labs ++ seen).Nodup ↔ p.labs.Nodup) := by
        rw [List.flatMap_append] at hnd
        simpa using hnd
      by_cases hc : q.kind = "call"
      · obtain ⟨l, g, b, hh, rfl⟩ : ∃ l g b hh, q = .call l g b hh := by
          cases q with
          | call l g b hh => exact ⟨l, g, b, hh, rfl⟩
          | two k _ _ => cases k <;> simp [Pol.kind, Two.s] at hc
          | num k _ _ _ => cases k <;> simp [Pol.kind, Num.s] at hc
          | _ => simp [Pol.kind] at hc
        by_cases hnl : l ∈ seen
        · have hno : ¬ p.labs.Nodup := fun hp => by
            have := (List.nodup_append.mp (hnd1.2.mpr hp)).2.2 l (by simp [Pol.labs])
            exact this l hnl rfl
          have e4 := cmp2_of (st := st ++ [Cl.l (stkD ys), .m (seenD seen)]) (g := gInD false) (x := .d (.str l)) (y := .c (st.length + 1)) (a := .str l) (b := .dict (seenD seen)) rfl (by
            have hg : isGone (.m (seenD seen)) = false := ok_notGone (seen_ok l seen)
            simp [hg])
          rw [gInD_d, if_pos (seen_ok l seen), seen_mem l seen hnl] at e4
          rw [decide_eq_false hno] at h
          refine seq_cut (fun _ _ => False) ?_ (fun _ _ z => z.elim)
          simp [Pol.pd, e4]
          exact h _
        refine seq_cut (fun ρ s => ρ = [some (.d p.pd), some (.c st.length), some (.c (st.length + 1)), some (.d (.int (many + 1 : Nat))), some (.d (Pol.call l g b hh).pd), some (.d (.int (dp : Int))), x6] ∧ s = st ++ [.l (stkD ys), .m (seenD (seen ++ [l]))]) ?_ ?_
        · have hsl' : seen.length < 16777216 := by omega
          have e4 := cmp2_of (st := st ++ [Cl.l (stkD ys), .m (seenD seen)]) (g := gInD false) (x := .d (.str l)) (y := .c (st.length + 1)) (a := .str l) (b := .dict (seenD seen)) rfl (by
            have hg : isGone (.m (seenD seen)) = false := ok_notGone (seen_ok l seen)
            simp [hg])
          rw [gInD_d, if_pos (seen_ok l seen), seen_look l seen hnl] at e4
          simp [Pol.pd, e4, seen_ok, seen_len, szl, hsl', seen_put l seen hnl]
        rintro ρ s ⟨rfl, rfl⟩
        refine fin (seen ++ [l]) (by simp; omega) ?_
        rw [List.flatMap_append]
        have e5 : ((innS (Pol.call l g b hh) (dp + 1)).flatMap fun x => x.1.labs) = [] := rfl
        rw [e5, List.append_nil]
        have hp : ((ys.flatMap fun x => x.1.labs) ++ (seen ++ [l])).Perm (ys.flatMap (fun x => x.1.labs) ++ (Pol.call l g b hh).labs ++ seen) := by
          rw [List.append_assoc]
          exact List.Perm.append_left _ List.perm_append_comm
        refine ⟨List.nodup_append.mpr ⟨hnd1.1, by simp, fun a ha b hb e => ?_⟩, hp.nodup_iff.trans hnd1.2⟩
        simp at hb; subst hb; subst e; exact hnl ha
      · refine seq_cut (fun ρ s => ρ = [some (.d p.pd), some (.c st.length), some (.c (st.length + 1)), some (.d (.int (many + 1 : Nat))), some (.d q.pd), some (.d (.int (dp : Int))), x6] ∧ s = st ++ [.l (stkD ys), .m (seenD seen)]) ?_ ?_
        · obtain ⟨r, er⟩ := inn_pd q
          rw [er]
          simp [hc]
        rintro ρ s ⟨rfl, rfl⟩
        refine fin seen (by omega) ?_
        rw [List.flatMap_append, inn_labs q (dp + 1) hc]
        exact hnd1
  · rintro ρ s ⟨hp, t, rfl⟩
    rw [decide_eq_true hp] at h
    simp
    exact h t
end
theorem at_ind {C : List Nat → Pol → Pol → Prop} (h0 : ∀ p, C [] p p)
    (t0 : ∀ k a b q r, a.at q = some r → C q a r → C (0 :: q) (.two k a b) r) (t1 : ∀ k a b q r, b.at q = some r → C q b r → C (1 :: q) (.two k a b) r)
    (n0 : ∀ k n a b q r, a.at q = some r → C q a r → C (0 :: q) (.num k n a b) r) (n1 : ∀ k n a b q r, b.at q = some r → C q b r → C (1 :: q) (.num k n a b) r)
    (r0 : ∀ ps a q r, a.at q = some r → C q a r → C (0 :: q) (.retry ps a) r) (m0 : ∀ n a q r, a.at q = some r → C q a r → C (0 :: q) (.tmo n a) r) :
    ∀ (q : List Nat) {p r : Pol}, p.at q = some r → C q p r
  | [], p, r, h => by cases h; exact h0 p
  | i :: q, p, r, h => by
    have h : (match p.inn[i]? with | some r => r.at q | none => none) = some r := h
    cases p with
    | call l g b hh => simp [Pol.inn] at h
    | wait n => simp [Pol.inn] at h
    | two k a b =>
      match i, h with
      | 0, h => simp [Pol.inn] at h; exact t0 k a b q r h (at_ind h0 t0 t1 n0 n1 r0 m0 q h)
      | 1, h => simp [Pol.inn] at h; exact t1 k a b q r h (at_ind h0 t0 t1 n0 n1 r0 m0 q h)
      | i + 2, h => simp [Pol.inn] at h
    | num k n a b =>
      match i, h with
      | 0, h => simp [Pol.inn] at h; exact n0 k n a b q r h (at_ind h0 t0 t1 n0 n1 r0 m0 q h)
      | 1, h => simp [Pol.inn] at h; exact n1 k n a b q r h (at_ind h0 t0 t1 n0 n1 r0 m0 q h)
      | i + 2, h => simp [Pol.inn] at h
    | retry ps a =>
      match i, h with
      | 0, h => simp [Pol.inn] at h; exact r0 ps a q r h (at_ind h0 t0 t1 n0 n1 r0 m0 q h)
      | i + 1, h => simp [Pol.inn] at h
    | tmo n a =>
      match i, h with
      | 0, h => simp [Pol.inn] at h; exact m0 n a q r h (at_ind h0 t0 t1 n0 n1 r0 m0 q h)
      | i + 1, h => simp [Pol.inn] at h
theorem put_nil (p x : Pol) : p.put [] x = x := by cases p <;> simp [Pol.put]
theorem put_put {q : List Nat} {p r : Pol} (x : Pol) (h : p.at q = some r) : (p.put q x).put q r = p := by
  refine at_ind (C := fun q p r => (p.put q x).put q r = p) ?_ ?_ ?_ ?_ ?_ ?_ ?_ q h
  · intro p; rw [put_nil]
  all_goals intros; simp_all [Pol.put]
theorem at_put {q : List Nat} {p r : Pol} (x : Pol) (h : p.at q = some r) : (p.put q x).at q = some x := by
  refine at_ind (C := fun q p r => (p.put q x).at q = some x) ?_ ?_ ?_ ?_ ?_ ?_ ?_ q h
  · intro p; rw [put_nil]; rfl
  all_goals intros; simp_all [Pol.put, at_cons, Pol.inn]
theorem wn_put {q : List Nat} {p r : Pol} {x : Pol} (h : p.at q = some r) : x.wn = r.wn → (p.put q x).wn = p.wn := by
  refine at_ind (C := fun q p r => x.wn = r.wn → (p.put q x).wn = p.wn) ?_ ?_ ?_ ?_ ?_ ?_ ?_ q h
  · intro p hx; rw [put_nil]; exact hx
  all_goals intros; simp_all [Pol.put, Pol.wn]
theorem fmB_put {q : List Nat} {p r : Pol} {x : Pol} (h : p.at q = some r) : PyData.eqv r.wn x.wn = false → fmB p (p.put q x) = false := by
  refine at_ind (C := fun q p r => PyData.eqv r.wn x.wn = false → fmB p (p.put q x) = false) ?_ ?_ ?_ ?_ ?_ ?_ ?_ q h
  · intro p hx; rw [put_nil]; exact hx
  all_goals intros; simp_all [fmB, Pol.put, Pol.wn, eqvTup, eqvT]
/-- how many parts have a number -/
def Pol.nn : Pol → Nat
  | .call _ _ _ _ => 0
  | .wait _ => 1
  | .two _ a b => a.nn + b.nn
  | .num _ _ a b => 1 + a.nn + b.nn
  | .retry _ a => 1 + a.nn
  | .tmo _ a => 1 + a.nn
theorem nn_put {q : List Nat} {p r : Pol} {x : Pol} (h : p.at q = some r) : x.nn = r.nn → (p.put q x).nn = p.nn := by
  refine at_ind (C := fun q p r => x.nn = r.nn → (p.put q x).nn = p.nn) ?_ ?_ ?_ ?_ ?_ ?_ ?_ q h
  · intro p hx; rw [put_nil]; exact hx
  all_goals intros; simp_all [Pol.put, Pol.nn]
def numsF (p : Pol) : List (List Nat) := p.paths.filter fun q => isNumD (p.sub q).pd
theorem numsF_nn : ∀ p : Pol, (numsF p).length = p.nn
  | .call l _ _ _ => by simp [numsF, Pol.paths, Pol.sub, Pol.at, isNumD, Pol.pd, Pol.nn]
  | .wait _ => by simp [numsF, Pol.paths, Pol.sub, Pol.at, isNumD, Pol.pd, Pol.nn]
  | .two k a b => by
    have ha := numsF_nn a
    have hb := numsF_nn b
    unfold numsF at ha hb ⊢
    have e : isNumD ((Pol.two k a b).sub []).pd = false := by show isNumD (Pol.two k a b).pd = false; cases k <;> simp [isNumD, Pol.pd, Two.s]
    simp only [Pol.paths, List.filter_cons, e, List.filter_append, List.filter_map, List.length_append, List.length_map, Function.comp_def, sub_two0, sub_two1, Pol.nn, Bool.false_eq_true, if_false]
    omega
  | .num k n a b => by
    have ha := numsF_nn a
    have hb := numsF_nn b
    unfold numsF at ha hb ⊢
    have e : isNumD ((Pol.num k n a b).sub []).pd = true := by show isNumD (Pol.num k n a b).pd = true; cases k <;> simp [isNumD, Pol.pd, Num.s]
    simp only [Pol.paths, List.filter_cons, e, List.filter_append, List.filter_map, List.length_append, List.length_map, Function.comp_def, sub_num0, sub_num1, Pol.nn, if_true, List.length_cons]
    omega
  | .retry ps a => by
    have ha := numsF_nn a
    unfold numsF at ha ⊢
    have e : isNumD ((Pol.retry ps a).sub []).pd = true := by show isNumD (Pol.retry ps a).pd = true; simp [isNumD, Pol.pd]
    simp only [Pol.paths, List.filter_cons, e, List.filter_append, List.filter_map, List.length_append, List.length_map, Function.comp_def, sub_retry, Pol.nn, if_true, List.length_cons]
    omega
  | .tmo n a => by
    have ha := numsF_nn a
    unfold numsF at ha ⊢
    have e : isNumD ((Pol.tmo n a).sub []).pd = true := by show isNumD (Pol.tmo n a).pd = true; simp [isNumD, Pol.pd]
    simp only [Pol.paths, List.filter_cons, e, List.filter_append, List.filter_map, List.length_append, List.length_map, Function.comp_def, sub_tmo, Pol.nn, if_true, List.length_cons]
    omega
theorem numL_nn (p : Pol) : (numL p).length = p.nn := by
  rw [← numsF_nn]
  unfold numL numsF
  rw [List.length_map]
theorem at_labs {q : List Nat} {p : Pol} {l : Str} {g b : Span} {hh : Bool} (h : p.at q = some (.call l g b hh)) : l ∈ p.labs := by
  refine at_ind (C := fun q p r => r = .call l g b hh → l ∈ p.labs) ?_ ?_ ?_ ?_ ?_ ?_ ?_ q h rfl
  · rintro p rfl; simp [Pol.labs]
  all_goals intros; simp_all [Pol.labs]
theorem labs_inj {q : List Nat} {p : Pol} {l : Str} {g b : Span} {hh : Bool} (h : p.at q = some (.call l g b hh)) : ∀ {q' : List Nat} {g' b' : Span} {hh' : Bool}, p.labs.Nodup → p.at q' = some (.call l g' b' hh') → q = q' := by
  refine at_ind (C := fun q p r => r = .call l g b hh → ∀ {q' : List Nat} {g' b' : Span} {hh' : Bool}, p.labs.Nodup → p.at q' = some (.call l g' b' hh') → q = q') ?_ ?_ ?_ ?_ ?_ ?_ ?_ q h rfl
  · rintro p rfl q' g' b' hh' _ h'
    cases q' with
    | nil => rfl
    | cons i q' => rw [at_cons] at h'; simp [Pol.inn] at h'
  · rintro k a c q r hr ih rfl q' g' b' hh' hn h'
    simp only [Pol.labs, List.nodup_append] at hn
    match q', h' with
    | [], h' => cases h'
    | 0 :: q', h' => rw [ih rfl hn.1 h']
    | 1 :: q', h' => exact absurd rfl (hn.2.2 l (at_labs hr) l (at_labs (p := c) h'))
    | (i + 2) :: q', h' => rw [at_cons] at h'; simp [Pol.inn] at h'
  · rintro k a c q r hr ih rfl q' g' b' hh' hn h'
    simp only [Pol.labs, List.nodup_append] at hn
    match q', h' with
    | [], h' => cases h'
    | 1 :: q', h' => rw [ih rfl hn.2.1 h']
    | 0 :: q', h' => exact absurd rfl (hn.2.2 l (at_labs (p := a) h') l (at_labs hr))
    | (i + 2) :: q', h' => rw [at_cons] at h'; simp [Pol.inn] at h'
  · rintro k n a c q r hr ih rfl q' g' b' hh' hn h'
    simp only [Pol.labs, List.nodup_append] at hn
    match q', h' with
    | [], h' => cases h'
    | 0 :: q', h' => rw [ih rfl hn.1 h']
    | 1 :: q', h' => exact absurd rfl (hn.2.2 l (at_labs hr) l (at_labs (p := c) h'))
    | (i + 2) :: q', h' => rw [at_cons] at h'; simp [Pol.inn] at h'
  · rintro k n a c q r hr ih rfl q' g' b' hh' hn h'
    simp only [Pol.labs, List.nodup_append] at hn
    match q', h' with
    | [], h' => cases h'
    | 1 :: q', h' => rw [ih rfl hn.2.1 h']
    | 0 :: q', h' => exact absurd rfl (hn.2.2 l (at_labs (p := a) h') l (at_labs hr))
    | (i + 2) :: q', h' => rw [at_cons] at h'; simp [Pol.inn] at h'
  · rintro ps a q r hr ih rfl q' g' b' hh' hn h'
    match q', h' with
    | [], h' => cases h'
    | 0 :: q', h' => rw [ih rfl hn h']
    | (i + 1) :: q', h' => rw [at_cons] at h'; simp [Pol.inn] at h'
  · rintro n a q r hr ih rfl q' g' b' hh' hn h'
    match q', h' with
    | [], h' => cases h'
    | 0 :: q', h' => rw [ih rfl hn h']
    | (i + 1) :: q', h' => rw [at_cons] at h'; simp [Pol.inn] at h'
/-- other calls stay where they are -/
theorem at_put_ne {q : List Nat} {p : Pol} {l : Str} {g b : Span} {hh : Bool} {x : Pol} (hx : x.inn = []) (h : p.at q = some (.call l g b hh)) : ∀ {q' : List Nat} {l' : Str} {g' b' : Span} {hh' : Bool}, q ≠ q' → p.at q' = some (.call l' g' b' hh') → (p.put q x).at q' = some (.call l' g' b' hh') := by
  refine at_ind (C := fun q p r => r = .call l g b hh → ∀ {q' : List Nat} {l' : Str} {g' b' : Span} {hh' : Bool}, q ≠ q' → p.at q' = some (.call l' g' b' hh') → (p.put q x).at q' = some (.call l' g' b' hh')) ?_ ?_ ?_ ?_ ?_ ?_ ?_ q h rfl
  · rintro p rfl q' l' g' b' hh' hne h'
    cases q' with
    | nil => exact absurd rfl hne
    | cons i q' => rw [at_cons] at h'; simp [Pol.inn] at h'
  · rintro k a c q r hr ih rfl q' l' g' b' hh' hne h'
    match q', h', hne with
    | [], h', _ => cases h'
    | 0 :: q', h', hne => exact ih rfl (fun e => hne (by rw [e])) h'
    | 1 :: q', h', _ => exact h'
    | (i + 2) :: q', h', _ => rw [at_cons] at h'; simp [Pol.inn] at h'
  · rintro k a c q r hr ih rfl q' l' g' b' hh' hne h'
    match q', h', hne with
    | [], h', _ => cases h'
    | 1 :: q', h', hne => exact ih rfl (fun e => hne (by rw [e])) h'
    | 0 :: q', h', _ => exact h'
    | (i + 2) :: q', h', _ => rw [at_cons] at h'; simp [Pol.inn] at h'
  · rintro k n a c q r hr ih rfl q' l' g' b' hh' hne h'
    match q', h', hne with
    | [], h', _ => cases h'
    | 0 :: q', h', hne => exact ih rfl (fun e => hne (by rw [e])) h'
    | 1 :: q', h', _ => exact h'
    | (i + 2) :: q', h', _ => rw [at_cons] at h'; simp [Pol.inn] at h'
  · rintro k n a c q r hr ih rfl q' l' g' b' hh' hne h'
    match q', h', hne with
    | [], h', _ => cases h'
    | 1 :: q', h', hne => exact ih rfl (fun e => hne (by rw [e])) h'
    | 0 :: q', h', _ => exact h'
    | (i + 2) :: q', h', _ => rw [at_cons] at h'; simp [Pol.inn] at h'
  · rintro ps a q r hr ih rfl q' l' g' b' hh' hne h'
    match q', h', hne with
    | [], h', _ => cases h'
    | 0 :: q', h', hne => exact ih rfl (fun e => hne (by rw [e])) h'
    | (i + 1) :: q', h', _ => rw [at_cons] at h'; simp [Pol.inn] at h'
  · rintro n a q r hr ih rfl q' l' g' b' hh' hne h'
    match q', h', hne with
    | [], h', _ => cases h'
    | 0 :: q', h', hne => exact ih rfl (fun e => hne (by rw [e])) h'
    | (i + 1) :: q', h', _ => rw [at_cons] at h'; simp [Pol.inn] at h'
theorem twice_dup {q q' : List Nat} {p : Pol} {l l' : Str} {g b g' b' g2 b2 : Span} {hh hh' hh2 : Bool} (h : p.at q = some (.call l g b hh)) (h' : p.at q' = some (.call l' g' b' hh')) (hne : q ≠ q') : ¬ (p.put q (.call l' g2 b2 hh2)).labs.Nodup := fun hn =>
  hne (labs_inj (at_put _ h) hn (at_put_ne rfl h hne h'))
end Cp
/-! L11a: policies with other labels; dicts from labels to labels. -/
namespace Cp
open PySem L2
def rl (m : Str → Str) : Pol → Pol
  | .call l g b h => .call (m l) g b h
  | .wait n => .wait n
  | .two k a b => .two k (rl m a) (rl m b)
  | .num k n a b => .num k n (rl m a) (rl m b)
  | .retry ps a => .retry ps (rl m a)
  | .tmo n a => .tmo n (rl m a)
variable {m m2 : Str → Str}
theorem rl_labs : ∀ p : Pol, (rl m p).labs = p.labs.map m
  | .call _ _ _ _ => rfl
  | .wait _ => rfl
  | .two _ a b => by simp [rl, Pol.labs, rl_labs a, rl_labs b]
  | .num _ _ a b => by simp [rl, Pol.labs, rl_labs a, rl_labs b]
  | .retry _ a => by simp [rl, Pol.labs, rl_labs a]
  | .tmo _ a => by simp [rl, Pol.labs, rl_labs a]
theorem rl_size : ∀ p : Pol, (rl m p).size = p.size
  | .call _ _ _ _ => rfl
  | .wait _ => rfl
  | .two _ a b => by simp [rl, Pol.size, rl_size a, rl_size b]
  | .num _ _ a b => by simp [rl, Pol.size, rl_size a, rl_size b]
  | .retry _ a => by simp [rl, Pol.size, rl_size a]
  | .tmo _ a => by simp [rl, Pol.size, rl_size a]
theorem rl_depth : ∀ p : Pol, (rl m p).depth = p.depth
  | .call _ _ _ _ => rfl
  | .wait _ => rfl
  | .two _ a b => by simp [rl, Pol.depth, rl_depth a, rl_depth b]
  | .num _ _ a b => by simp [rl, Pol.depth, rl_depth a, rl_depth b]
  | .retry _ a => by simp [rl, Pol.depth, rl_depth a]
  | .tmo _ a => by simp [rl, Pol.depth, rl_depth a]
theorem rl_inn (p : Pol) : (rl m p).inn = p.inn.map (rl m) := by cases p <;> rfl
theorem rl_hd {p : Pol} (h : p.kind ≠ "call") : (rl m p).hd = p.hd := by cases p <;> first | rfl | (simp [Pol.kind] at h)
theorem rl_node : ∀ {p : Pol}, p.All Pol.Node → (∀ l ∈ p.labs, IsLab (m l)) → (rl m p).All Pol.Node
  | .call l g b h, hn, hl => ⟨hl l (by simp [Pol.labs]), hn.2⟩
  | .wait _, hn, _ => hn
  | .two _ a b, hn, hl => ⟨hn.1, rl_node hn.2.1 fun l h => hl l (by simp [Pol.labs, h]), rl_node hn.2.2 fun l h => hl l (by simp [Pol.labs, h])⟩
  | .num _ _ a b, hn, hl => ⟨hn.1, rl_node hn.2.1 fun l h => hl l (by simp [Pol.labs, h]), rl_node hn.2.2 fun l h => hl l (by simp [Pol.labs, h])⟩
  | .retry _ a, hn, hl => ⟨hn.1, rl_node hn.2 hl⟩
  | .tmo _ a, hn, hl => ⟨hn.1, rl_node hn.2 hl⟩
theorem rl_rl : ∀ {p : Pol}, (∀ l ∈ p.labs, m2 (m l) = l) → rl m2 (rl m p) = p
  | .call l g b h, hl => by simp only [rl]; rw [hl l (by simp [Pol.labs])]
  | .wait _, _ => rfl
  | .two _ a b, hl => by simp only [rl]; rw [rl_rl fun l h => hl l (by simp [Pol.labs, h]), rl_rl fun l h => hl l (by simp [Pol.labs, h])]
  | .num _ _ a b, hl => by simp only [rl]; rw [rl_rl fun l h => hl l (by simp [Pol.labs, h]), rl_rl fun l h => hl l (by simp [Pol.labs, h])]
  | .retry _ a, hl => by simp only [rl]; rw [rl_rl (p := a) hl]
  | .tmo _ a, hl => by simp only [rl]; rw [rl_rl (p := a) hl]
theorem nodup_map {α β : Type} {f : α → β} : ∀ {l : List α}, l.Nodup → (∀ a ∈ l, ∀ b ∈ l, f a = f b → a = b) → (l.map f).Nodup
  | [], _, _ => List.nodup_nil
  | a :: l, h, hf => by
    rw [List.map_cons, List.nodup_cons]
    have h' := List.nodup_cons.mp h
    refine ⟨fun z => ?_, nodup_map h'.2 fun x hx y hy => hf x (List.mem_cons_of_mem _ hx) y (List.mem_cons_of_mem _ hy)⟩
    obtain ⟨b, hb, e⟩ := List.mem_map.mp z
    have := hf b (List.mem_cons_of_mem _ hb) a (List.mem_cons_self ..) e
    exact h'.1 (this ▸ hb)
theorem rl_valid {p : Pol} (hv : p.Valid) (hl : ∀ l ∈ p.labs, IsLab (m l)) (hi : ∀ a ∈ p.labs, ∀ b ∈ p.labs, m a = m b → a = b) : (rl m p).Valid :=
  ⟨rl_node hv.nd hl, by rw [rl_size]; exact hv.sz, by rw [rl_depth]; exact hv.dp, by rw [rl_labs]; exact nodup_map hv.lb hi⟩
theorem inn_lab {p q : Pol} (h : q ∈ p.inn) {l : Str} (hl : l ∈ q.labs) : l ∈ p.labs := by
  cases p <;> simp [Pol.inn] at h <;> simp [Pol.labs]
  · rcases h with rfl | rfl <;> simp [hl]
  · rcases h with rfl | rfl <;> simp [hl]
  · subst h; exact hl
  · subst h; exact hl
/-! ### dicts -/
def prL (m : Str → Str) (ls : List Str) : List (Str × PyData) := ls.map fun l => (l, .str (m l))
def dsm (m : Str → Str) (ls : List Str) : List (PyData × PyData) := dkv (prL m ls)
theorem prL_fst (ls : List Str) : (prL m ls).map (·.1) = ls := by unfold prL; rw [List.map_map]; exact List.map_id' ls
theorem dsm_cons (l : Str) (ls : List Str) : dsm m (l :: ls) = (.str l, .str (m l)) :: dsm m ls := rfl
theorem dsm_look {l : Str} : ∀ {ls : List Str}, l ∈ ls → lookD (dsm m ls) (.str l) = some (.str (m l))
  | [], h => nomatch h
  | a :: ls, h => by
    rw [dsm_cons]
    show (if keyE (.str a) (.str l) then some (.str (m a)) else lookD (dsm m ls) (.str l)) = _
    rw [keyE_str]
    by_cases e : a = l
    · subst e; simp
    · rw [decide_eq_false e, if_neg Bool.false_ne_true]
      exact dsm_look ((List.mem_cons.mp h).resolve_left (Ne.symm e))
theorem dsm_ok (ls : List Str) (l : Str) : okK (dsm m ls) (.str l) = true := by
  unfold okK
  have e : flK (dsm m ls) = true := dkv_flat _
  rw [e]; rfl
theorem dsm_dix {l : Str} {ls : List Str} (h : l ∈ ls) : fDix (.dict (dsm m ls)) (.str l) = some (.d (.str (m l))) := by
  rw [fDix_d, if_pos (dsm_ok ls l), dsm_look h]; rfl
theorem dsm_put {a y : Str} {ls : List Str} (h : a ∈ ls) : putD (dsm m ls) (.str a) (.str y) = dsm (fun l => if l = a then y else m l) ls := by
  unfold putD
  have e : ((dsm m ls).any fun p => keyE p.1 (.str a)) = true := by
    rw [List.any_eq_true]
    refine ⟨(.str a, .str (m a)), ?_, by rw [keyE_str]; simp⟩
    unfold dsm dkv prL
    rw [List.map_map]
    exact List.mem_map.mpr ⟨a, h, rfl⟩
  rw [if_pos e]
  unfold dsm dkv prL
  rw [List.map_map, List.map_map, List.map_map]
  refine List.map_congr_left fun l hl => ?_
  show (if keyE (.str l) (.str a) = true then _ else _) = _
  rw [keyE_str]
  by_cases e : l = a
  · subst e; simp
  · simp [e]
def prD (m : Str → Str) (ls : List Str) : List PyData := ls.map fun l => .tuple [.str l, .str (m l)]
theorem prs_of : ∀ ls : List Str, pairsD (prD m ls) = some (dsm m ls)
  | [] => rfl
  | l :: ls => by
    show (if (keyOfD (.str l)).isSome then (pairsD (prD m ls)).map ((.str l, .str (m l)) :: ·) else none) = _
    rw [prs_of ls]; rfl
theorem dsm_merge {ls : List Str} (h : ls.Nodup) : mergeD [] (dsm m ls) = dsm m ls := by
  have := dkv_merge (prL m ls) [] (by rw [List.nil_append, prL_fst]; exact h)
  rw [List.nil_append] at this
  exact this
theorem dictP_dsm {ls : List Str} (h : ls.Nodup) : fDictP (.list (prD m ls)) = some (.n (.m (dsm m ls))) := by
  show (pairsD (prD m ls)).map _ = _
  rw [prs_of]
  show some (Rv.n (Cl.m (mergeD [] (dsm m ls)))) = _
  rw [dsm_merge h]
theorem zip_prD : ∀ ls : List Str, zipF (ls.map PyData.str) ((ls.map m).map PyData.str) = prD m ls
  | [] => rfl
  | l :: ls => by
    show .tuple [.str l, .str (m l)] :: zipF (ls.map PyData.str) ((ls.map m).map PyData.str) = _
    rw [zip_prD ls]; rfl
theorem ex_map : ∀ (ls fs : List Str), ls.Nodup → fs.length = ls.length → ∃ m : Str → Str, ls.map m = fs
  | [], [], _, _ => ⟨id, rfl⟩
  | l :: ls, f :: fs, h, e => by
    have h' := List.nodup_cons.mp h
    obtain ⟨m, hm⟩ := ex_map ls fs h'.2 (by simpa using e)
    refine ⟨fun x => if x = l then f else m x, ?_⟩
    rw [List.map_cons]
    simp only [if_true]
    congr 1
    rw [← hm]
    refine List.map_congr_left fun x hx => ?_
    have : x ≠ l := fun z => h'.1 (z ▸ hx)
    simp [this]
  | [], _ :: _, _, e => by simp at e
  | _ :: _, [], _, e => by simp at e
theorem inj_of : ∀ {ls : List Str}, (ls.map m).Nodup → ∀ a ∈ ls, ∀ b ∈ ls, m a = m b → a = b
  | [], _, _, h, _, _, _ => nomatch h
  | l :: ls, h, a, ha, b, hb, e => by
    rw [List.map_cons] at h
    have h' := List.nodup_cons.mp h
    rcases List.mem_cons.mp ha with ea | ha <;> rcases List.mem_cons.mp hb with eb | hb
    · rw [ea, eb]
    · exact absurd (List.mem_map.mpr ⟨b, hb, by rw [← e, ea]⟩) h'.1
    · exact absurd (List.mem_map.mpr ⟨a, ha, by rw [e, eb]⟩) h'.1
    · exact inj_of h'.2 a ha b hb e
/-! ### what is shown -/
structure TxO (x : Str) : Prop where
  s : Sgn x
  l : x.length ≤ 20
theorem kv_len : ∀ {ls : List Str}, (∀ l ∈ ls, TxO l ∧ TxO (m l)) → ((PyData.shownKv (dsm m ls)).map fun t => t.length + 2).sum ≤ ls.length * 500 ∧ (∀ t ∈ PyData.shownKv (dsm m ls), Sgn t) ∧ PyData.showableKv (dsm m ls) = true ∧ noLstK (dsm m ls) = true
  | [], _ => ⟨Nat.zero_le _, (fun _ h => nomatch h), rfl, rfl⟩
  | l :: ls, h => by
    obtain ⟨h1, h2, h3, h4⟩ := kv_len (ls := ls) fun x hx => h x (List.mem_cons_of_mem _ hx)
    obtain ⟨a, b⟩ := h l (List.mem_cons_self ..)
    have la := PySem.StrLaws.reprText_len l fun c hc => Nat.lt_trans (a.s c hc) (by decide)
    have lb := PySem.StrLaws.reprText_len (m l) fun c hc => Nat.lt_trans (b.s c hc) (by decide)
    have e0 : PyData.shownKv (dsm m (l :: ls)) = (reprText l ++ ": " ++ reprText (m l)) :: PyData.shownKv (dsm m ls) := rfl
    refine ⟨?_, ?_, ?_, ?_⟩
    · rw [e0, List.map_cons, List.sum_cons, strLen_append, strLen_append, List.length_cons]
      have e1 : ((": " : String) : Str).length = 2 := rfl
      have := a.l
      have := b.l
      omega
    · rw [e0]
      intro t ht
      rcases List.mem_cons.mp ht with rfl | ht
      · exact Sgn.add (Sgn.add (repr_sgn a.s) (Sgn.lit _)) (repr_sgn b.s)
      · exact h2 t ht
    · show (true && true && PyData.showableKv (dsm m ls)) = true
      rw [h3]; rfl
    · show (true && noLstK (dsm m ls)) = true
      rw [h4]; rfl
theorem noLst_int : ∀ l : List Int, noLstA (l.map PyData.int) = true
  | [] => rfl
  | _ :: l => noLst_int l
theorem noLst_nu (n : Option Int) : noLst (nuD n) = true := by cases n <;> rfl
theorem noLst_sp (g : Span) : noLst (spD g) = true := by cases g <;> rfl
theorem noLst_pd : ∀ p : Pol, noLst p.pd = true
  | .call l g b h => by
    show (true && (true && (noLst (spD g) && (noLst (spD b) && (true && true))))) = true
    rw [noLst_sp, noLst_sp]; rfl
  | .wait _ => rfl
  | .two k a b => by
    show (true && (noLst a.pd && (noLst b.pd && true))) = true
    rw [noLst_pd a, noLst_pd b]; rfl
  | .num k n a b => by
    show (true && (noLst (nuD n) && (noLst a.pd && (noLst b.pd && true)))) = true
    rw [noLst_nu, noLst_pd a, noLst_pd b]; rfl
  | .retry ps a => by
    show (true && (noLstA (ps.map PyData.int) && (noLst a.pd && true))) = true
    rw [noLst_int, noLst_pd a]; rfl
  | .tmo n a => by
    show (true && (noLst (nuD n) && (noLst a.pd && true))) = true
    rw [noLst_nu, noLst_pd a]; rfl
theorem dsm_depth : ∀ ls : List Str, PyData.depthKv (dsm m ls) = 0
  | [] => rfl
  | l :: ls => by
    show max (max 0 0) (PyData.depthKv (dsm m ls)) = 0
    rw [dsm_depth ls]; rfl
theorem lab_tx {x : Str} (h : IsLab x) : TxO x := ⟨fun c hc => sgn_ofS _ c (h.sg c hc), by have := h.hi; omega⟩
def bkD (p : Pol) (m : Str → Str) (ls : List Str) : PyData := .list [p.pd, .dict (dsm m ls)]
theorem shw_bk {p : Pol} {ls : List Str} (hn : p.All Pol.Node) (hs : p.size ≤ 40) (hd : p.depth ≤ 20) (hl : ls.length ≤ 40) (h : ∀ l ∈ ls, TxO l ∧ TxO (m l)) : shw (bkD p m ls) = true ∧ SeqAt.shaped (.str (bkD p m ls).shown) = true := by
  obtain ⟨h1, h2, h3, h4⟩ := kv_len h
  have ok := Pol.okS hn
  obtain ⟨g1, g2, g3⟩ := shown_ok ok
  have gs := shown_sgn ok
  have gz := Pol.siz_le hn
  have gd := p.pd_depth
  have es : (bkD p m ls).shown = PySem.listText [p.pd.shown, PySem.dictText (PyData.shownKv (dsm m ls))] := rfl
  have ds : Sgn (PySem.dictText (PyData.shownKv (dsm m ls))) := Sgn.add (Sgn.add (Sgn.lit _) (join_sgn (Sgn.lit _) h2)) (Sgn.lit _)
  have sg : Sgn (bkD p m ls).shown := by
    rw [es]
    exact text_sgn fun t ht => by
      rcases List.mem_cons.mp ht with rfl | ht
      · exact gs
      · rw [List.mem_singleton.mp ht]; exact ds
  refine ⟨?_, shaped_ok (d := .str (bkD p m ls).shown) sg (Nat.zero_le _)⟩
  have len : (bkD p m ls).shown.length ≤ sizeLine := by
    rw [es]
    refine Nat.le_trans (text_len _) ?_
    have e1 : (PySem.dictText (PyData.shownKv (dsm m ls))).length ≤ 2 + ls.length * 500 := by
      show (("{" : Str) ++ Str.join ", " (PyData.shownKv (dsm m ls)) ++ "}").length ≤ _
      rw [strLen_append, strLen_append]
      have := join_len (PyData.shownKv (dsm m ls))
      have e1 : (("{" : String) : Str).length = 1 := rfl
      have e2 : (("}" : String) : Str).length = 1 := rfl
      omega
    rw [List.map_cons, List.map_cons, List.map_nil, List.sum_cons, List.sum_cons, List.sum_nil]
    have : p.size * 500 ≤ 40 * 500 := Nat.mul_le_mul_right _ hs
    have : ls.length * 500 ≤ 40 * 500 := Nat.mul_le_mul_right _ hl
    rw [szl]; omega
  have dep : (bkD p m ls).depth ≤ 60 := by
    show PyData.depthAll [p.pd, .dict (dsm m ls)] + 1 ≤ 60
    show max p.pd.depth (max (PyData.depthKv (dsm m ls) + 1) 0) + 1 ≤ 60
    rw [dsm_depth]; omega
  unfold shw
  rw [decide_eq_true len, decide_eq_true dep]
  have e1 : (bkD p m ls).showable = true := by
    show (p.pd.showable && ((PyData.showableKv (dsm m ls)) && true)) = true
    rw [g1, h3]; rfl
  have e2 : noLst (bkD p m ls) = true := by
    show (noLst p.pd && ((flK (dsm m ls) && noLstK (dsm m ls)) && true)) = true
    rw [noLst_pd, h4, show flK (dsm m ls) = true from dkv_flat _]; rfl
  rw [e1, e2]
  simp
/-! ### fresh labels -/
def frS : List Str := "abcdefghijklmnopqrst".toList.map fun c => Str.ofString ("n" ++ String.singleton c)
/-! ### many calls -/
def manyC : List Pol := "abcdefghijklmnopqrst".toList.map fun c => .call (Str.ofString ("old" ++ String.singleton c)) (some (0, 1)) none false
def manyT : List Pol → List Pol
  | a :: b :: r => r ++ [.two .both a b]
  | r => r
def manyI : Nat → List Pol
  | 0 => manyC
  | k + 1 => manyT (manyI k)
def manyP : Pol := ((manyI 19)[0]?).getD (.wait 0)
theorem manyT_len {l : List Pol} (h : 2 ≤ l.length) : (manyT l).length + 1 = l.length := by
  match l, h with
  | a :: b :: r, _ => show (r ++ [Pol.two .both a b]).length + 1 = _; simp
theorem manyI_len : ∀ k, k ≤ 19 → (manyI k).length = 20 - k
  | 0, _ => rfl
  | k + 1, h => by
    have ih := manyI_len k (by omega)
    have := manyT_len (l := manyI k) (by omega)
    show (manyT (manyI k)).length = _
    omega
theorem manyP_19 : manyI 19 = [manyP] := by
  have h := manyI_len 19 (by omega)
  unfold manyP
  match e : manyI 19, h with
  | [a], _ => rfl
def labB (x : Str) : Bool := decide (1 ≤ x.length) && decide (x.length ≤ 8) && x.cps.toList.all fun c => decide (c ∈ SIG.cps.toList)
theorem labB_ok {x : Str} (h : labB x = true) : IsLab x := by
  unfold labB at h
  simp only [Bool.and_eq_true, decide_eq_true_eq, List.all_eq_true] at h
  exact ⟨h.1.1, h.1.2, h.2⟩
theorem manyP_labs : manyP.labs.length = 20 ∧ manyP.labs.Nodup ∧ (manyP.labs.all labB) = true := by decide +kernel
theorem manyP_sd : manyP.size = 39 ∧ manyP.depth ≤ 7 := by decide +kernel
theorem frS_ok : frS.length = 20 ∧ frS.Nodup ∧ frS.all labB = true := by decide +kernel
def simB : Pol → Bool
  | .call _ g b _ => g == some (0, 1) && b == none
  | .two _ a b => simB a && simB b
  | _ => false
theorem simB_node : ∀ {p : Pol}, simB p = true → (∀ l ∈ p.labs, IsLab l) → p.All Pol.Node
  | .call l g b h, e, hl => by
    unfold simB at e
    simp only [Bool.and_eq_true, beq_iff_eq] at e
    obtain ⟨rfl, rfl⟩ := e
    exact ⟨hl l (by simp [Pol.labs]), by simp [SpOk], trivial, .inr (.inl (by simp))⟩
  | .two _ a b, e, hl => by
    unfold simB at e
    rw [Bool.and_eq_true] at e
    exact ⟨trivial, simB_node e.1 fun l h => hl l (by simp [Pol.labs, h]), simB_node e.2 fun l h => hl l (by simp [Pol.labs, h])⟩
theorem manyP_sim : simB manyP = true := by decide +kernel
theorem manyP_valid : manyP.Valid :=
  ⟨simB_node manyP_sim fun l hl => labB_ok (List.all_eq_true.mp manyP_labs.2.2 l hl), by rw [manyP_sd.1]; decide, Nat.le_trans manyP_sd.2 (by decide), manyP_labs.2.1⟩
end Cp
namespace K11
open PySem L2 Cp
theorem eU : sem__law_urn = semU_urn := rfl
theorem eN : sem__law_next = semU_next := rfl
theorem eO : sem__law_of = semU_of := rfl
theorem eLi : sem__law_inner = semP_linner := rfl
theorem eGr : ∀ n, sem__law_grown n = semP_grown n
  | 0 => rfl
  | n + 1 => by show bodyF 11 4 (sb__law_grown (sem__law_grown n)) = bodyF 11 4 (sbP_grown (semP_grown n)); rw [eGr n]; rfl
theorem ePo : sem__law_policy = semP_policy := by unfold sem__law_policy sb__law_policy; rw [eGr]; rfl
theorem eCa : ∀ n, sem__law_calls n = semS_calls n
  | 0 => rfl
  | n + 1 => by show bodyF 3 1 (sb__law_calls (sem__law_calls n)) = bodyF 3 1 (sbS_calls (semS_calls n)); rw [eCa n]; rfl
theorem eIn : sem_inner = semP_inner := rfl
theorem eWi : sem_with_inner = semS_with_inner := rfl
theorem eIp : sem_is_policy = semS_is_policy := rfl
theorem eCp : sem_check_policy = semS_check_policy := rfl
section
variable {m : Str → Str} {ls : List Str}
theorem w_wl : ∀ (f : Nat) {p : Pol} {v : Vl} {st : Sto} {P : Rv → Sto → Prop}, view st v = some (.dict (dsm m ls)) → p.depth ≤ f → (∀ l ∈ p.labs, l ∈ ls) → P (.d (rl m p).pd) st → WVe noE (sem_with_labels f [.d p.pd, v] st) P
  | 0, p, _, _, _, _, hd, _, _ => by cases p <;> (simp only [Pol.depth] at hd; omega)
  | f + 1, p, v, st, P, hv, hd, hl, h => by
    show WVe noE (bodyF 3 2 (sb_with_labels (sem_with_labels f)) _ _) P
    unfold sb_with_labels
    rw [W_body, eWi, eIn]
    refine ⟨rfl, ?_⟩
    by_cases hk : p.kind = "call"
    · obtain ⟨l, g, b, hh, rfl⟩ : ∃ l g b hh, p = .call l g b hh := by
        cases p with
        | call l g b hh => exact ⟨l, g, b, hh, rfl⟩
        | two k _ _ => cases k <;> simp [Pol.kind, Two.s] at hk
        | num k _ _ _ => cases k <;> simp [Pol.kind, Num.s] at hk
        | _ => simp [Pol.kind] at hk
      have ed := dsm_dix (m := m) (hl l (by simp [Pol.labs]))
      have ec : cutD [PyData.str (Str.ofString "call"), PyData.str l, spD g, spD b, PyData.bool hh] (some 2) none = [spD g, spD b, .bool hh] := rfl
      simp [Pol.pd, szl, ec]
      rw [hv]
      simp [ed]
      exact h
    · refine seq_cut (fun ρ s => s = st ∧ ρ = [some (.d p.pd), some v, none]) ?_ ?_
      · obtain ⟨r, er⟩ := inn_pd p
        rw [er]
        simp [hk]
      rintro ρ s ⟨rfl, rfl⟩
      simp
      refine w_inner ?_
      simp
      have hb : p.inn.length ≤ 2 := by cases p <;> simp [Pol.inn]
      refine lcGo_by (I := fun i s' a => s' = s ∧ a = ((p.inn.take i).map (rl m)).map Pol.pd) _ 0 [] ⟨rfl, rfl⟩ (fun _ _ _ _ => trivial) ?_ ?_
      · rintro i d s a hd ⟨rfl, rfl⟩
        rw [List.getElem?_map] at hd
        obtain ⟨q, hq, rfl⟩ := Option.map_eq_some_iff.mp hd
        have hqm := List.mem_of_getElem? hq
        have hqd := inn_dp hqm
        simp [wipeE]
        refine w_wl f hv (by omega) (fun l hl' => hl l (inn_lab hqm hl')) ?_
        simp
        have hi : i < p.inn.length := (List.getElem?_eq_some_iff.mp hq).1
        refine ⟨by rw [szl]; omega, ?_⟩
        have et : (List.map (Pol.pd ∘ rl m) p.inn)[i]? = some (rl m q).pd := by rw [List.getElem?_map, hq]; rfl
        rw [List.take_succ, et]; rfl
      · rintro s a ⟨rfl, rfl⟩
        rw [List.length_map, Nat.zero_add, List.take_length]
        refine w_with_inner (xs := (p.inn.map (rl m)).map Pol.pd) rfl (by simp) ?_
        simp
        rw [← rl_hd hk, ← List.map_map, ← rl_inn, ← pd_hd]
        exact h
theorem w_called : ∀ (f : Nat) {p : Pol} {v : Vl} {st : Sto} {P : Rv → Sto → Prop}, view st v = some (.dict (dsm m ls)) → p.depth ≤ f → (∀ l ∈ p.labs, l ∈ ls) → P (.d (rl m p).pd) st → WVe noE (sem__law_called f [.d p.pd, v] st) P
  | 0, p, _, _, _, _, hd, _, _ => by cases p <;> (simp only [Pol.depth] at hd; omega)
  | f + 1, p, v, st, P, hv, hd, hl, h => by
    show WVe noE (bodyF 4 2 (sb__law_called (sem__law_called f)) _ _) P
    unfold sb__law_called
    rw [W_body, eLi]
    refine ⟨rfl, ?_⟩
    by_cases hk : p.kind = "call"
    · obtain ⟨l, g, b, hh, rfl⟩ : ∃ l g b hh, p = .call l g b hh := by
        cases p with
        | call l g b hh => exact ⟨l, g, b, hh, rfl⟩
        | two k _ _ => cases k <;> simp [Pol.kind, Two.s] at hk
        | num k _ _ _ => cases k <;> simp [Pol.kind, Num.s] at hk
        | _ => simp [Pol.kind] at hk
      have ed := dsm_dix (m := m) (hl l (by simp [Pol.labs]))
      have ec : cutD [PyData.str (Str.ofString "call"), PyData.str l, spD g, spD b, PyData.bool hh] (some 2) none = [spD g, spD b, .bool hh] := rfl
      simp [Pol.pd, szl, ec]
      rw [hv]
      simp [ed]
      exact h
    · refine seq_cut (fun ρ s => s = st ∧ ρ = [some (.d p.pd), some v, none, none]) ?_ ?_
      · obtain ⟨r, er⟩ := inn_pd p
        rw [er]
        simp [hk]
      rintro ρ s ⟨rfl, rfl⟩
      have hb : p.inn.length ≤ 2 := by cases p <;> simp [Pol.inn]
      refine seq_cut (fun ρ s' => s' = s ∧ ρ = [some (.d p.pd), some v, some (.d (.list (((p.inn).map (rl m)).map Pol.pd))), none]) ?_ ?_
      · simp
        refine w_linner ?_
        simp
        refine lcGo_by (I := fun i s' a => s' = s ∧ a = ((p.inn.take i).map (rl m)).map Pol.pd) _ 0 [] ⟨rfl, rfl⟩ (fun _ _ _ _ => trivial) ?_ ?_
        · rintro i d s a hd ⟨rfl, rfl⟩
          rw [List.getElem?_map] at hd
          obtain ⟨q, hq, rfl⟩ := Option.map_eq_some_iff.mp hd
          have hqm := List.mem_of_getElem? hq
          have hqd := inn_dp hqm
          simp [wipeE]
          refine w_called f hv (by omega) (fun l hl' => hl l (inn_lab hqm hl')) ?_
          simp
          have hi : i < p.inn.length := (List.getElem?_eq_some_iff.mp hq).1
          refine ⟨by rw [szl]; omega, ?_⟩
          have et : (List.map (Pol.pd ∘ rl m) p.inn)[i]? = some (rl m q).pd := by rw [List.getElem?_map, hq]; rfl
          rw [List.take_succ, et]; rfl
        · rintro s a ⟨rfl, rfl⟩
          rw [List.length_map, Nat.zero_add, List.take_length]
          simp
      rintro ρ s' ⟨rfl, rfl⟩
      have hlen : p.hd.length ≤ 5 := by cases p <;> simp [Pol.hd]
      rw [pd_hd]
      simp
      rw [cutT (by simp), List.take_left]
      refine ⟨by rw [szl]; omega, ?_⟩
      rw [← rl_hd hk, ← List.map_map, ← rl_inn, ← pd_hd]
      exact h
end
section
variable {ρ : En} {st : Sto} {E : Er → Sto → Prop} {PE : Rv → Sto → Prop} {mo ma : Ev}
@[simp] theorem W_mPopA : WVe E (mPopA mo ma ρ st) PE = WVe E (mo ρ st) fun x s1 => WO (lstAt s1 (frz x)) fun _ => WVe E (ma ρ s1) fun y s2 => match frz x, frz y with
    | .c k, .d (.int i) => WO (lstAt s2 (.c k)) fun xs => (0 ≤ i ∧ i < xs.length ∧ xs.length ≤ sizeLine) ∧ WO (xs[i.toNat]?) fun d => PE (.d d) (s2.set k (.l (xs.eraseIdx i.toNat)))
    | _, _ => False := by
  unfold mPopA; rw [WV_bind, W_mV]
  congr 1; funext x s1
  cases h : lstAt s1 (frz x) with
  | none => rfl
  | some zs =>
    simp only [WO_some]
    rw [WV_bind, W_mV]
    congr 1; funext y s2
    cases q1 : frz x with
    | d x => rfl
    | s x => rfl
    | o x => rfl
    | c k =>
      cases q2 : frz y with
      | c x => cases lstAt s2 (.c k) <;> rfl
      | s x => cases lstAt s2 (.c k) <;> rfl
      | o x => cases lstAt s2 (.c k) <;> rfl
      | d d =>
        cases d with
        | int i =>
          cases hq : lstAt s2 (.c k) with
          | none => simp only [hq]; rfl
          | some xs =>
            simp only [hq]
            by_cases c : 0 ≤ i ∧ i < xs.length ∧ xs.length ≤ sizeLine
            · rw [if_pos c]
              simp only [WO_some]
              cases xs[i.toNat]? with
              | none => simp [c]
              | some d => simp [c]
            · rw [if_neg c]
              simp only [WO_some]
              exact propext ⟨fun h => False.elim h, fun h => c h.1⟩
        | _ => cases lstAt s2 (.c k) <;> rfl
end
section
variable {st : Sto} {P : Rv → Sto → Prop}
theorem cutD2 (d e : PyData) (ds : List PyData) : cutD (d :: e :: ds) (some 2) none = ds := by
  unfold cutD
  have h1 : HT.sIx (d :: e :: ds).length 0 (some 2) = 2 := by
    rw [show (2 : Int) = ((2 : Nat) : Int) from rfl, HT.sIx_nat]
    simp
  rw [h1]
  show List.take (HT.sIx (d :: e :: ds).length (d :: e :: ds).length none - 2) ds = ds
  exact List.take_of_length_le (by show ds.length ≤ (d :: e :: ds).length - 2; simp)
theorem w_roll {J : Nat → List Pol} {p : Pol} {c : En → Sto → Res Bool} {b : Sv} (hc : c = mCmp (gI fun i j => decide (j < i)) (mCal gLen (aCons (mV (mN 0)) aNil)) (mK (.int 1)))
    (hb : b = sAsg (gNm 0) (mV (mBin fAdd (mSl (mN 0) (oSome (mK (.int 2))) oNone) (mLst (aCons (mV (mTup (aCons (mV (mK (.str "both"))) (aCons (mV (mBin fIx (mN 0) (mK (.int 0)))) (aCons (mV (mBin fIx (mN 0) (mK (.int 1)))) aNil))))) aNil)))))
    (hJ : ∀ j, J (j + 1) = manyT (J j)) (hl : ∀ k, k ≤ 19 → (J k).length = 20 - k) (h19 : J 19 = [p]) {N B C : En → Sto → Prop} {R : Rv → Sto → Prop} {x : Option Vl} {L : List PyData} (hL : L = (J 0).map Pol.pd) (h : N [some (.d (.list [p.pd])), x] st) :
    WSe noE (whGo c b 1048576 [some (.d (.list L)), x] st) N B C R := by
  subst hc hb hL
  refine whGo_by (I := fun k ρ s' => s' = st ∧ ∃ j, k + j = 19 ∧ ρ = [some (.d (.list ((J j).map Pol.pd))), x]) 1048576 19 (by omega) ⟨rfl, 0, rfl, rfl⟩ ?_
  rintro k ρ s' ⟨rfl, j, hk, rfl⟩
  have hlen := hl j (by omega)
  by_cases hj : j = 19
  · subst hj
    rw [h19]
    simp
    exact h
  · obtain ⟨a, b, r, e⟩ : ∃ a b r, J j = a :: b :: r := by
      match e : J j, hlen with
      | a :: b :: r, _ => exact ⟨a, b, r, rfl⟩
      | [a], h => simp at h; omega
      | [], h => simp at h; omega
    have hnext : J (j + 1) = r ++ [.two .both a b] := by rw [hJ, e]; rfl
    rw [e] at hlen
    rw [e]
    simp [cutD2]
    simp only [List.length_cons] at hlen
    rw [if_pos (by omega)]
    exact ⟨k - 1, by omega, by rw [szl]; decide, by rw [szl]; decide, by rw [szl]; omega, j + 1, by omega, by rw [hnext]; simp [Pol.pd, Two.s]⟩
def sgC : List PyData := signs (Str.ofString "abcdefghijklmnopqrst")
theorem sgC_is : signs (Str.ofString "abcdefghijklmnopqrst") = sgC := rfl
theorem sgC_len : sgC.length = 20 := by decide +kernel
theorem sgC_str {d : PyData} (h : d ∈ sgC) : ∃ y, d = .str y ∧ y.length ≤ 1 := by
  have : sgC.all (fun d => match d with | .str y => decide (y.length ≤ 1) | _ => false) = true := by decide +kernel
  have := List.all_eq_true.mp this d h
  cases d <;> simp at this
  exact ⟨_, rfl, this⟩
theorem sgC_map : sgC.map (fun d => match d with
      | .str x => .tuple [.str (Str.ofString "call"), .str (Str.ofString "old" ++ x), .tuple [.int 0, .int 1], .none, .bool false]
      | d => d) = (manyI 0).map Pol.pd := by kernel_rfl
theorem manyI_S (j : Nat) : manyI (j + 1) = manyT (manyI j) := by rw [manyI]
theorem w_many (h : P (.d manyP.pd) st) : WVe noE (sem__law_many_calls [] st) P := by
  obtain ⟨D, hD⟩ : ∃ D, D = manyP.pd := ⟨_, rfl⟩
  obtain ⟨L, hL⟩ : ∃ L, L = (manyI 0).map Pol.pd := ⟨_, rfl⟩
  have h19 : manyI 19 = [manyP] := manyP_19
  rw [← hD] at h
  have key : ∀ {c : En → Sto → Res Bool} {b : Sv} (hc : c = mCmp (gI fun i j => decide (j < i)) (mCal gLen (aCons (mV (mN 0)) aNil)) (mK (.int 1)))
    (hb : b = sAsg (gNm 0) (mV (mBin fAdd (mSl (mN 0) (oSome (mK (.int 2))) oNone) (mLst (aCons (mV (mTup (aCons (mV (mK (.str "both"))) (aCons (mV (mBin fIx (mN 0) (mK (.int 0)))) (aCons (mV (mBin fIx (mN 0) (mK (.int 1)))) aNil))))) aNil))))) {N B C : En → Sto → Prop} {R : Rv → Sto → Prop} {x : Option Vl} {st : Sto}, N [some (.d (.list [D])), x] st → WSe noE (whGo c b 1048576 [some (.d (.list L)), x] st) N B C R := fun hc hb _ _ _ _ _ _ h => w_roll (J := manyI) (p := manyP) hc hb manyI_S manyI_len h19 hL (by rw [← hD]; exact h)
  have hS : signs (Str.ofString "abcdefghijklmnopqrst") = sgC := sgC_is
  clear hD h19
  unfold sem__law_many_calls sb__law_many_calls
  rw [W_body]
  refine ⟨rfl, ?_⟩
  refine seq_cut (fun ρ s => s = st ∧ ρ = [some (.d (.list L)), none]) ?_ ?_
  · simp
    rw [hS]
    refine lc_map (fun d => match d with
      | .str x => .tuple [.str (Str.ofString "call"), .str (Str.ofString "old" ++ x), .tuple [.int 0, .int 1], .none, .bool false]
      | d => d) (fun d hd => ?_) ?_ ?_
    · obtain ⟨y, rfl, hy⟩ := sgC_str hd
      simp [wipeE]
      have e3 : (Str.ofString "old").length = 3 := rfl
      exact ⟨by rw [szl, e3]; omega, by rw [szl]; decide, by rw [szl]; decide⟩
    · rw [sgC_len, szl]; decide
    · refine ⟨rfl, ?_⟩
      rw [hL]
      exact sgC_map
  rintro ρ s ⟨rfl, rfl⟩
  refine seq_cut (fun ρ s' => s' = s ∧ ∃ x, ρ = [some (.d (.list [D])), x]) ?_ ?_
  · exact key rfl rfl ⟨rfl, none, rfl⟩
  rintro ρ s' ⟨rfl, x, rfl⟩
  simp
  exact h
end
section
variable {st : Sto} {P : Rv → Sto → Prop} {m : Str → Str} {ls : List Str}
theorem w_rel {p : Pol} {v : Vl} (hv : view st v = some (.dict (dsm m ls))) (hd : p.depth ≤ 20) (hl : ∀ l ∈ p.labs, l ∈ ls) (hr : (rl m p).Valid) (h : P (.d (rl m p).pd) st) : WVe noE (sem_relabelled [.d p.pd, v] st) P := by
  unfold sem_relabelled sb_relabelled
  rw [W_body, eCp]
  refine ⟨rfl, ?_⟩
  refine seq_cut (fun ρ s => s = st ∧ ρ = [some (.d p.pd), some v, some (.d (rl m p).pd)]) ?_ ?_
  · simp
    refine w_wl 25 hv (by omega) hl ?_
    simp
  rintro ρ s ⟨rfl, rfl⟩
  simp
  refine w_check_policy hr fun t => ?_
  simp
  exact h
theorem WV_er {α : Type} {E : Er → Sto → Prop} {e : Er} {s : Sto} {P : α → Sto → Prop} : WVe E (.er e s : Res α) P = E e s := rfl
theorem WV_any {α : Type} {E : Er → Sto → Prop} {r : Res α} {P : α → Sto → Prop} (h : WVe noE r P) : WVe E r P := by
  cases r with
  | ok a s => exact h
  | er e s => exact False.elim h
  | no => exact h
theorem wv_er {E : Er → Sto → Prop} {r : Res Rv} (h : WVe E r fun _ _ => False) : ∃ e s, r = .er e s ∧ E e s := by
  cases r with
  | ok a s => exact False.elim h
  | er e s => exact ⟨e, s, rfl, h⟩
  | no => exact False.elim h
theorem w_rel_bad {p : Pol} {v : Vl} (hv : view st v = some (.dict (dsm m ls))) (hd : p.depth ≤ 20) (hs : p.size ≤ 40) (hl : ∀ l ∈ p.labs, l ∈ ls) (hn : (rl m p).All Pol.Node) (hr : ¬ (rl m p).labs.Nodup) {E : Er → Sto → Prop}
    (h : E ⟨Str.ofString "InvalidPolicy", some (Str.ofString "value", (rl m p).pd)⟩ st) : WVe E (sem_relabelled [.d p.pd, v] st) P := by
  unfold sem_relabelled sb_relabelled
  rw [W_body, eCp]
  refine ⟨rfl, ?_⟩
  refine seq_cut (fun ρ s => s = st ∧ ρ = [some (.d p.pd), some v, some (.d (rl m p).pd)]) ?_ ?_
  · simp
    refine WV_any (w_wl 25 hv (by omega) hl ?_)
    simp
  rintro ρ s ⟨rfl, rfl⟩
  simp
  unfold semS_check_policy sbS_check_policy
  rw [W_body]
  simp
  refine WV_any (w_is_policyB hn (by rw [rl_size]; exact hs) (by rw [rl_depth]; exact hd) fun t => ?_)
  rw [decide_eq_false hr]
  simp
  simpa using h
theorem caught_pol {T : Th} {mm : Sto → Res Rv} {s1 s2 : Sto} {d : PyData} (hm : mm s1 = .er ⟨Str.ofString "InvalidPolicy", some (Str.ofString "value", d)⟩ s2) : sem__law_caught T mm [.o (.th T)] s1 = .ok (.d (.tuple [.str "policy", d])) s2 := by
  have key : WVe noE (sem__law_caught T mm [.o (.th T)] s1) fun r s => r = .d (.tuple [.str "policy", d]) ∧ s = s2 := by
    unfold sem__law_caught sb__law_caught
    rw [W_body]
    refine ⟨rfl, ?_⟩
    simp [W_mAct, hm, List.lookup, WV_er, szl]
  obtain ⟨r, s, e, rfl, rfl⟩ := WV_ex key
  exact e
end
/-! ### fresh labels -/
def nS : PyData → PyData
  | .str x => .str (Str.ofString "n" ++ x)
  | d => d
def nO : PyData → Option Str
  | .str x => if x.length ≤ 5 then some (Str.ofString "n" ++ x) else none
  | _ => none
def cutB (c : Nat) : Bool := match fSl (.str (Str.ofString "abcdefghijklmnopqrst")) none (some (c : Int)) with
  | some (.d (.str y)) => decide ((signs y).map nO = (frS.take c).map some)
  | _ => false
theorem cut_all : (List.range 21).all cutB = true := by decide +kernel
theorem nO_map : ∀ {ds : List PyData} {xs : List Str}, ds.map nO = xs.map some → ds.map nS = xs.map PyData.str ∧ ∀ d ∈ ds, ∃ x, d = .str x ∧ x.length ≤ 5
  | [], [], _ => ⟨rfl, fun _ h => nomatch h⟩
  | d :: ds, x :: xs, h => by
    rw [List.map_cons, List.map_cons] at h
    injection h with h1 h2
    obtain ⟨g1, g2⟩ := nO_map h2
    cases d with
    | str y =>
      have h1 : (if y.length ≤ 5 then some (Str.ofString "n" ++ y) else none) = some x := h1
      by_cases hy : y.length ≤ 5
      · rw [if_pos hy] at h1
        injection h1 with h1
        refine ⟨by rw [List.map_cons, List.map_cons, g1, ← h1]; rfl, fun d hd => ?_⟩
        rcases List.mem_cons.mp hd with rfl | hd
        · exact ⟨y, rfl, hy⟩
        · exact g2 d hd
      · rw [if_neg hy] at h1; cases h1
    | _ => cases h1
  | [], _ :: _, h => by simp at h
  | _ :: _, [], h => by simp at h
theorem cut_ok {c : Nat} (h : c ≤ 20) : ∃ y, fSl (.str (Str.ofString "abcdefghijklmnopqrst")) none (some (c : Int)) = some (.d (.str y)) ∧ (signs y).map nS = (frS.take c).map PyData.str ∧ ∀ d ∈ signs y, ∃ x, d = .str x ∧ x.length ≤ 5 := by
  have := List.all_eq_true.mp cut_all c (List.mem_range.mpr (by omega))
  unfold cutB at this
  split at this
  · rename_i y hy
    obtain ⟨a, b⟩ := nO_map (of_decide_eq_true this)
    exact ⟨y, hy, a, b⟩
  · cases this
theorem frS_lab {x : Str} (h : x ∈ frS) : IsLab x := labB_ok (List.all_eq_true.mp frS_ok.2.2 x h)
theorem List.set_getElem?_self' {α : Type} {l : List α} {i : Nat} {a : α} (h : l[i]? = some a) : l.set i a = l := by
  obtain ⟨hi, e⟩ := List.getElem?_eq_some_iff.mp h
  rw [← e]; exact List.set_getElem_self hi
theorem erase_perm {α : Type} : ∀ {l : List α} {i : Nat} {x : α}, l[i]? = some x → (x :: l.eraseIdx i).Perm l
  | a :: l, 0, x, h => by simp at h; subst h; exact List.Perm.refl _
  | a :: l, i + 1, x, h => by
    have ih := erase_perm (l := l) (i := i) (x := x) (by simpa using h)
    exact (List.Perm.swap a x _).trans (List.Perm.cons a ih)
  | [], i, x, h => by simp at h
theorem map_erase {α β : Type} (f : α → β) : ∀ (l : List α) (i : Nat), (l.map f).eraseIdx i = (l.eraseIdx i).map f
  | [], _ => rfl
  | a :: l, 0 => rfl
  | a :: l, i + 1 => by show f a :: (l.map f).eraseIdx i = f a :: (l.eraseIdx i).map f; rw [map_erase f l i]
theorem set_a {S : Sto} {n : Nat} (a b a' : Cl) (h : S.length = n) : (S ++ [a, b]).set n a' = S ++ [a', b] := by subst h; simp [List.set_append_right]
theorem set_b {S : Sto} {n : Nat} (a b a' : Cl) (h : S.length = n) : (S ++ [a, b]).set (n + 1) a' = S ++ [a, a'] := by subst h; simp [List.set_append_right]
theorem take_ab {S : Sto} {n : Nat} (a b : Cl) (h : S.length = n) : (S ++ [a, b]).take (n + 2) = S ++ [a, b] := List.take_of_length_le (by subst h; simp)
theorem get_a {S : Sto} {n : Nat} (a b : Cl) (h : S.length = n) : (S ++ [a, b])[n]? = some a := by subst h; simp
theorem get_b {S : Sto} {n : Nat} (a b : Cl) (h : S.length = n) : (S ++ [a, b])[n + 1]? = some b := by subst h; simp
section
variable {st : Sto} {P : Rv → Sto → Prop}
theorem w_fresh {i : Nat} {u : Cl} {mm : Int} {c : Nat} (hu : st[i]? = some u) (hU : Urn mm u) (hm : mm < 2 ^ 190) (hm0 : 0 ≤ mm) (hc : c ≤ 20)
    (h : ∀ (fs : List Str) (u' : Cl), fs.length = c → fs.Nodup → (∀ x ∈ fs, x ∈ frS) → Urn (mm + 20) u' → P (.n (.l (fs.map PyData.str))) (st.set i u')) :
    WVe noE (sem__law_fresh [.c i, .d (.int (c : Int))] st) fun r s => back st.length r s P := by
  have hi : i < st.length := (List.getElem?_eq_some_iff.mp hu).1
  obtain ⟨y, hy, hys, hyl⟩ := cut_ok hc
  unfold sem__law_fresh sb__law_fresh
  rw [W_body, eN]
  refine ⟨rfl, ?_⟩
  refine seq_cut (fun ρ s => s = st ++ [.l ((frS.take c).map PyData.str), .l []] ∧ ρ = [some (.c i), some (.d (.int (c : Int))), some (.c st.length), some (.c (st.length + 1)), none]) ?_ ?_
  · simp [hy]
    refine lc_map nS (fun d hd => ?_) ?_ ?_
    · obtain ⟨x, rfl, hx⟩ := hyl d hd
      simp [wipeE]
      have e1 : (Str.ofString "n").length = 1 := rfl
      exact ⟨by rw [szl, e1]; omega, rfl⟩
    · have := congrArg List.length hys
      rw [List.length_map, List.length_map, List.length_take] at this
      rw [this, szl]; omega
    · rw [hys]
      simp
  rintro ρ s ⟨rfl, rfl⟩
  refine seq_cut (fun ρ s => ∃ (fs : List Str) (u' : Cl), fs.length = c ∧ fs.Nodup ∧ (∀ x ∈ fs, x ∈ frS) ∧ Urn (mm + 20) u' ∧ s = st.set i u' ++ [.l [], .l (fs.map PyData.str)] ∧ ρ = [some (.c i), some (.d (.int (c : Int))), some (.c st.length), some (.c (st.length + 1)), none]) ?_ ?_
  · refine whGo_by (I := fun k ρ s => ∃ (left fs : List Str) (u' : Cl), left.length = k ∧ left.length + fs.length = c ∧ (left ++ fs).Nodup ∧ (∀ x ∈ left ++ fs, x ∈ frS) ∧ Urn (mm + fs.length) u' ∧ s = st.set i u' ++ [.l (left.map PyData.str), .l (fs.map PyData.str)] ∧ ρ = [some (.c i), some (.d (.int (c : Int))), some (.c st.length), some (.c (st.length + 1)), none]) 1048576 c (by omega) ?_ ?_
    · refine ⟨frS.take c, [], u, by rw [List.length_take, frS_ok.1]; omega, by rw [List.length_take, frS_ok.1, List.length_nil]; omega, ?_, ?_, by simpa using hU, ?_, rfl⟩
      · rw [List.append_nil]; exact frS_ok.2.1.sublist (List.take_sublist _ _)
      · intro x hx; rw [List.append_nil] at hx; exact List.mem_of_mem_take hx
      · rw [List.set_getElem?_self' hu]; rfl
    · rintro k ρ s ⟨left, fs, u', hk, hlc, hnd, hfr, hU', rfl, rfl⟩
      have hSl : (st.set i u').length = st.length := List.length_set ..
      have hne := gNe_lnil (ds := left.map PyData.str) fun d hd => by
        obtain ⟨x, hx, rfl⟩ := List.mem_map.mp hd
        exact ⟨(lab_tx (frS_lab (hfr x (List.mem_append_left _ hx)))).s, Nat.zero_le _⟩
      have ev : cmp2 gNe (st.set i u' ++ [.l (left.map PyData.str), .l (fs.map PyData.str)]) (.c st.length) (.d (.list [])) = some (!(left.map PyData.str).isEmpty) := by
        unfold cmp2
        simp [view, get_a _ _ hSl, hne]
      simp [get_a _ _ hSl]
      rw [ev]
      cases left with
      | nil =>
        simp
        exact ⟨fs, by simpa using hlc, by simpa using hnd, fun x hx => hfr x (by simpa using hx), u', hU'.mono (by simp at hlc; omega), rfl⟩
      | cons a left' =>
        simp only [List.length_cons] at hk hlc
        simp
        refine ⟨k - 1, by omega, ?_⟩
        refine w_next (u := u') (i := i) ?_ hU' (by omega) (by omega) (by omega) fun r u2 r0 r1 hU2 => ?_
        · rw [List.getElem?_append_left (by rw [hSl]; exact hi), List.getElem?_set_self hi]
        have es : ∀ a b : Cl, (st.set i u' ++ [a, b]).set i u2 = st.set i u2 ++ [a, b] := fun a b => by
          rw [List.set_append_left _ _ (by rw [hSl]; exact hi), List.set_set]
        have hS2 : (st.set i u2).length = st.length := List.length_set ..
        rw [es]
        have hr : r.toNat < (a :: left').length := by simp only [List.length_cons]; omega
        obtain ⟨x, hx⟩ : ∃ x, (a :: left')[r.toNat]? = some x := ⟨_, List.getElem?_eq_getElem hr⟩
        have pm := erase_perm hx
        have hxd : (PyData.str a :: left'.map PyData.str)[r.toNat]? = some (.str x) := by
          have : ((a :: left').map PyData.str)[r.toNat]? = some (.str x) := by rw [List.getElem?_map, hx]; rfl
          exact this
        have hme : (PyData.str a :: left'.map PyData.str).eraseIdx r.toNat = ((a :: left').eraseIdx r.toNat).map PyData.str := map_erase PyData.str (a :: left') r.toNat
        simp [get_a _ _ hS2, set_a _ _ _ hS2, get_b _ _ hS2, set_b _ _ _ hS2, hxd, hme]
        have hpl := pm.length_eq
        simp only [List.length_cons] at hpl
        refine ⟨⟨r0, by omega, by rw [szl]; omega⟩, by rw [szl]; omega, (a :: left').eraseIdx r.toNat, by omega, fs ++ [x], by simp; omega, ?_, ?_, u2, ?_, by rw [take_ab _ _ hS2, set_a _ _ _ hS2, set_b _ _ _ hS2]; simp⟩
        · have p2 : (((a :: left').eraseIdx r.toNat) ++ (fs ++ [x])).Perm ((a :: left') ++ fs) := by
            rw [← List.append_assoc]
            exact (List.perm_append_comm (l₁ := _ ++ fs) (l₂ := [x])).trans (List.Perm.append_right fs pm)
          exact p2.nodup_iff.mpr hnd
        · intro z hz
          refine hfr z ?_
          rcases hz with hz | hz
          · exact List.mem_append_left _ (pm.subset (List.mem_cons_of_mem _ hz))
          · rcases List.mem_append.mp hz with hz | hz
            · exact List.mem_append_right _ hz
            · rw [List.mem_singleton.mp hz]; exact List.mem_append_left _ (pm.subset (List.mem_cons_self ..))
        · exact hU2.mono (by simp; omega)
  rintro ρ s ⟨fs, u', h1, h2, h3, h4, rfl, rfl⟩
  have hSl : (st.set i u').length = st.length := List.length_set ..
  simp [get_b _ _ hSl]
  rw [if_neg (by omega)]
  exact h fs u' h1 h2 h3 h4
end
theorem atI_lastZ {α : Type} (xs : List α) (x : α) : atI (xs ++ [x]) (-1) = some x := by
  unfold atI ixN
  rw [if_neg (by decide), if_pos (by simp; omega)]
  have e : ((-1 : Int) + ((xs ++ [x]).length : Nat)).toNat = xs.length := by simp; omega
  show (xs ++ [x])[((-1 : Int) + ((xs ++ [x]).length : Nat)).toNat]? = some x
  rw [e]; simp
theorem ends_of : ∀ (O : List Str), 1 < O.length → ∃ a L b, O = a :: (L ++ [b])
  | [], h => by simp at h
  | [_], h => by simp at h
  | a :: b :: T, _ => ⟨a, (b :: T).dropLast, (b :: T).getLast (by simp), by rw [List.dropLast_concat_getLast]⟩
theorem labs_is {p : Pol} (h : p.All Pol.Node) : ∀ l ∈ p.labs, IsLab l := by
  intro l hl
  induction p with
  | call l' g b hh => simp [Pol.labs] at hl; subst hl; exact h.1
  | wait n => simp [Pol.labs] at hl
  | two k a b iha ihb => simp [Pol.labs] at hl; exact hl.elim (iha h.2.1) (ihb h.2.2)
  | num k n a b iha ihb => simp [Pol.labs] at hl; exact hl.elim (iha h.2.1) (ihb h.2.2)
  | retry ps a iha => exact iha h.2 hl
  | tmo n a iha => exact iha h.2 hl
theorem labs_size : ∀ p : Pol, p.labs.length ≤ p.size
  | .call _ _ _ _ => by simp [Pol.labs, Pol.size]
  | .wait _ => by simp [Pol.labs]
  | .two _ a b => by have := labs_size a; have := labs_size b; simp [Pol.labs, Pol.size]; omega
  | .num _ _ a b => by have := labs_size a; have := labs_size b; simp [Pol.labs, Pol.size]; omega
  | .retry _ a => by have := labs_size a; simp [Pol.labs, Pol.size]; omega
  | .tmo _ a => by have := labs_size a; simp [Pol.labs, Pol.size]; omega
theorem same_pd {p : Pol} (hv : p.Valid) : gNe p.pd p.pd = some false := gNe_same (shaped_ok (Pol.okS hv.nd) (by have := p.pd_depth; have := hv.dp; omega))
theorem same_sh {p : Pol} (hn : p.All Pol.Node) : gNe (.str p.pd.shown) (.str p.pd.shown) = some false := gNe_same (sshp_pol hn)
structure Pl (p : Pol) : Prop where
  v : p.Valid
  d : p.depth ≤ 9
  l : p.labs.length ≤ 20
def tb0 : Cl := tabC "law" "law.<locals>.<lambda>"
theorem dsm_gone {m : Str → Str} (ls : List Str) : isGone (.m (dsm m ls)) = false := isGone_dkv _
theorem view_cell {m : Str → Str} {ls : List Str} {st : Sto} {n : Nat} (h : st[n]? = some (.m (dsm m ls))) : view st (.c n) = some (.dict (dsm m ls)) := by
  simp only [view, h]
  rw [dsm_gone]; rfl
/-- what is known of the labels of a policy and two ways to write them anew -/
structure Ls (p : Pol) (O : List Str) (m m1 m2 : Str → Str) : Prop where
  pm : O.Perm p.labs
  nd : O.Nodup
  il : ∀ l ∈ O, IsLab l
  im : ∀ l ∈ O, IsLab (m l)
  jm : (O.map m).Nodup
  bk : ∀ l ∈ O, m1 (m l) = l
  rv : O.map m2 = O.reverse
section
variable {st : Sto} {P : Rv → Sto → Prop}
def Iin (ns : List Int) (kk : PyData) (uix : Nat) (i : Nat) (ρ : En) (s : Sto) : Prop :=
  (∃ x3 x4 x5 x6 x7 x8 x9 x10 x11 x12, ρ = [some (.s ns), some (.d kk), some (.c uix), x3, x4, x5, x6, x7, x8, x9, x10, x11, x12]) ∧ s[0]? = some tb0 ∧ 1 ≤ uix ∧ ∃ u, Urn (200 * i) u ∧ s[uix]? = some u
def Iout (ns : List Int) (ρ : En) (s : Sto) : Prop :=
  (∃ x1 x2 x3 x4 x5 x6 x7 x8 x9 x10 x11 x12, ρ = [some (.s ns), x1, x2, x3, x4, x5, x6, x7, x8, x9, x10, x11, x12]) ∧ s[0]? = some tb0
theorem w_law {ns : List Int} (hl : ns.length ≤ 63) : WVe noE (sem_law [.s ns] [tb0]) fun r _ => r = .d (.bool true) := by
  unfold sem_law sb_law
  rw [W_body]
  refine ⟨rfl, ?_⟩
  refine seq_cut (fun ρ s => Iout ns ρ s) ?_ ?_
  · simp
    have hn : ∃ n : Int, (if 1 < if (ns.length : Int) < 3 then (ns.length : Int) else 3 then if (ns.length : Int) < 3 then (ns.length : Int) else 3 else 1) = n ∧ 0 ≤ n ∧ n ≤ 3 := ⟨_, rfl, by split <;> split <;> omega, by split <;> split <;> omega⟩
    obtain ⟨mm, e, m0, m2⟩ := hn
    rw [e]
    refine ⟨rOk_of2 (by decide) (by decide) (by omega) (by omega), ?_⟩
    refine forGo_by (I := fun _ ρ s => Iout ns ρ s) _ 0 ⟨⟨_, _, _, _, _, _, _, _, _, _, _, _, rfl⟩, rfl⟩ (fun _ _ _ _ => trivial) ?_ fun _ _ h => h
    rintro k d ρ s hd ⟨⟨x1, x2, x3, x4, x5, x6, x7, x8, x9, x10, x11, x12, rfl⟩, hs0⟩
    obtain ⟨rfl, hkj⟩ := rngD_get hd
    have hs1 : 1 ≤ s.length := by have := (List.getElem?_eq_some_iff.mp hs0).1; omega
    refine seq_cut (fun ρ s' => ∃ u, Urn 0 u ∧ s' = s ++ [u] ∧ ρ = [some (.s ns), some (.d (.int (k : Int))), some (.c s.length), x3, x4, x5, x6, x7, x8, x9, x10, x11, x12]) ?_ ?_
    · simp [eU]
      refine w_urn (by omega) (by omega) fun u hU => ?_
      simp
      exact hU.mono (by omega)
    rintro ρ s' ⟨u, hU, rfl, rfl⟩
    simp
    refine ⟨rOk_of2 (by decide) (by decide) (by decide) (by decide), ?_⟩
    refine forGo_by (I := fun i ρ s' => Iin ns (.int (k : Int)) s.length i ρ s') _ 0 ⟨⟨_, _, _, _, _, _, _, _, _, _, rfl⟩, by rw [List.getElem?_append_left (by omega)]; exact hs0, hs1, u, hU.mono (by omega), by simp⟩ (fun _ _ _ _ => trivial) ?_ ?_
    case refine_2 =>
      rintro ρ s' ⟨⟨y3, y4, y5, y6, y7, y8, y9, y10, y11, y12, rfl⟩, h0, _, _⟩
      exact ⟨⟨_, _, _, _, _, _, _, _, _, _, _, _, rfl⟩, h0⟩
    clear hU
    generalize s.length = uix at hs1 ⊢
    clear hs0
    rintro i d ρ s hd ⟨⟨x3, x4, x5, x6, x7, x8, x9, x10, x11, x12, rfl⟩, h0, _, u, hU, hu⟩
    obtain ⟨rfl, hij⟩ := rngD_get hd
    have hi2 : i < 2 := by omega
    clear hd
    generalize PyData.int (k : Int) = kk
    have hul : uix < s.length := (List.getElem?_eq_some_iff.mp hu).1
    -- the plan
    refine seq_cut (fun ρ s' => ∃ (p : Pol) (u' : Cl), Pl p ∧ Urn (200 * i + 150) u' ∧ s' = s.set uix u' ∧ ρ = [some (.s ns), some (.d kk), some (.c uix), some (.d (.int (i : Int))), some (.d p.pd), x5, x6, x7, x8, x9, x10, x11, x12]) ?_ ?_
    · simp [ePo, eO]
      by_cases hi0 : i = 0
      · subst hi0
        simp
        refine w_policy hu (hU.mono (m := 0) (by omega)) (by decide) (by decide) (by decide) (by decide) (by decide) fun p stem u' hb hs hd9 hlb hst hU' => ?_
        simp
        have hsz : p.size ≤ 14 := by omega
        exact ⟨p, ⟨valid_drawn (L := 9) (by decide) hb (by omega) (by omega) hlb (by simpa [stems] using hst), hd9, Nat.le_trans (labs_size p) (by omega)⟩, u', hU'.mono (by omega), rfl, rfl⟩
      · rw [if_neg hi0]
        refine w_many ?_
        simp
        exact ⟨manyP, ⟨manyP_valid, Nat.le_trans manyP_sd.2 (by decide), by rw [manyP_labs.1]; decide⟩, u, hU.mono (by omega), (List.set_getElem?_self' hu).symm, rfl⟩
    rintro ρ s' ⟨p, u1, hp, hU1, rfl, rfl⟩
    have hu1 : (s.set uix u1)[uix]? = some u1 := List.getElem?_set_self hul
    have hz1 : (s.set uix u1)[0]? = some tb0 := by rw [List.getElem?_set_ne (by omega)]; exact h0
    have hl1 : (s.set uix u1).length = s.length := List.length_set ..
    generalize s.set uix u1 = s1 at hu1 hz1 hl1 ⊢
    rw [← hl1] at hul
    clear hu h0 hU hl1
    -- its labels
    obtain ⟨O, hO⟩ : ∃ O, O = sortS p.labs := ⟨_, rfl⟩
    have hpm : O.Perm p.labs := hO ▸ (sortS_ok p.labs).1
    have hOn : O.Nodup := hpm.nodup_iff.mpr hp.v.lb
    have hOl : O.length ≤ 20 := by rw [hpm.length_eq]; exact hp.l
    refine seq_cut (fun ρ s' => s' = s1 ∧ ρ = [some (.s ns), some (.d kk), some (.c uix), some (.d (.int (i : Int))), some (.d p.pd), some (.d (.list (O.map PyData.str))), x6, x7, x8, x9, x10, x11, x12]) ?_ ?_
    · simp [eCa]
      refine w_calls 25 (by have := hp.d; omega) hp.v.lb (by have := hp.v.sz; omega) ?_
      have hk := dkv_keys p.cls
      rw [cls_labs] at hk
      have hl64 : p.labs.length < 64 := by have := hp.l; omega
      simp [fSortedD, hk, hl64, ← hO]
    rintro ρ s1 ⟨rfl, rfl⟩
    -- the book
    refine seq_cut (fun ρ s' => ∃ (m : Str → Str) (u2 : Cl), (∀ l ∈ O, IsLab (m l)) ∧ (O.map m).Nodup ∧ Urn (200 * i + 190) u2 ∧ s' = s1.set uix u2 ++ [.m (dsm m O)] ∧ ρ = [some (.s ns), some (.d kk), some (.c uix), some (.d (.int (i : Int))), some (.d p.pd), some (.d (.list (O.map PyData.str))), some (.c s1.length), x7, x8, x9, x10, x11, x12]) ?_ ?_
    · simp
      refine w_fresh (c := O.length) hu1 hU1 (by omega) (by omega) hOl fun fs u2 f1 f2 f3 f4 => ?_
      obtain ⟨m, hm⟩ := ex_map O fs hOn f1
      subst hm
      have ez := zip_prD (m := m) O
      have ed := dictP_dsm (m := m) hOn
      simp [-List.map_map, ez, ed]
      exact ⟨m, fun l h => frS_lab (f3 _ (List.mem_map_of_mem h)), f2, u2, f4.mono (by omega), rfl, rfl⟩
    rintro ρ s' ⟨m, u2, hml, hmn, hU2, rfl, rfl⟩
    have hul2 : uix < (s1.set uix u2).length := by rw [List.length_set]; exact hul
    have hl2 : (s1.set uix u2).length = s1.length := List.length_set ..
    have hu2 : (s1.set uix u2 ++ [.m (dsm m O)])[uix]? = some u2 := by rw [List.getElem?_append_left hul2]; exact List.getElem?_set_self hul
    have hz2 : (s1.set uix u2 ++ [.m (dsm m O)])[0]? = some tb0 := by rw [List.getElem?_append_left (by omega), List.getElem?_set_ne (by omega)]; exact hz1
    have hb2 : (s1.set uix u2 ++ [.m (dsm m O)])[s1.length]? = some (.m (dsm m O)) := by rw [← hl2]; simp
    have hlen2 : (s1.set uix u2 ++ [Cl.m (dsm m O)]).length = s1.length + 1 := by simp
    generalize hsn : s1.length = n at hul hb2 hlen2 ⊢
    generalize s1.set uix u2 ++ [Cl.m (dsm m O)] = s2 at hu2 hz2 hb2 hlen2 ⊢
    clear hul2 hl2 hu1 hz1 hU1 hsn
    have hvb : view s2 (.c n) = some (.dict (dsm m O)) := view_cell hb2
    have hil : ∀ l ∈ O, IsLab l := fun l h => labs_is hp.v.nd l (hpm.subset h)
    have hsub : ∀ l ∈ p.labs, l ∈ O := fun l h => hpm.symm.subset h
    have hinj := inj_of hmn
    have hrv : (rl m p).Valid := rl_valid hp.v (fun l h => hml l (hsub l h)) fun a ha b hb => hinj a (hsub a ha) b (hsub b hb)
    obtain ⟨m2, hm2⟩ := ex_map O O.reverse hOn (by simp)
    obtain ⟨m1, hm1⟩ := ex_map (O.map m) O hmn (by simp)
    -- the labels the other way round
    refine seq_cut (fun ρ s' => s' = s2 ∧ ρ = [some (.s ns), some (.d kk), some (.c uix), some (.d (.int (i : Int))), some (.d p.pd), some (.d (.list (O.map PyData.str))), some (.c n), some (.d (.dict (dsm m2 O))), x8, x9, x10, x11, x12]) ?_ ?_
    · have ez := zip_prD (m := m2) O
      rw [hm2] at ez
      have ed := dictP_dsm (m := m2) hOn
      simp [-List.map_map, -List.map_reverse]
      rw [show (O.map PyData.str).reverse = O.reverse.map PyData.str from List.map_reverse.symm, ez, ed]
      simp
    rintro ρ s2 ⟨rfl, rfl⟩
    have hsw := shw_bk (m := m) (ls := O) hp.v.nd hp.v.sz hp.v.dp (by omega) fun l h => ⟨lab_tx (hil l h), lab_tx (hml l h)⟩
    have hvd : viewsD s2 [.d p.pd, .c n] = some [p.pd, .dict (dsm m O)] := by
      unfold viewsD
      rw [show viewsD s2 [.c n] = some [.dict (dsm m O)] from by unfold viewsD; rw [hvb]; rfl]
      rfl
    have hsw1 : shw (.list [p.pd, .dict (dsm m O)]) = true := hsw.1
    refine seq_cut (fun ρ s' => s' = s2 ∧ ρ = [some (.s ns), some (.d kk), some (.c uix), some (.d (.int (i : Int))), some (.d p.pd), some (.d (.list (O.map PyData.str))), some (.c n), some (.d (.dict (dsm m2 O))), some (.d (.str (bkD p m O).shown)), x9, x10, x11, x12]) ?_ ?_
    · simp [hvd, hsw1, szl]
      rfl
    rintro ρ s2 ⟨rfl, rfl⟩
    refine seq_cut (fun ρ s' => s' = s2 ∧ ρ = [some (.s ns), some (.d kk), some (.c uix), some (.d (.int (i : Int))), some (.d p.pd), some (.d (.list (O.map PyData.str))), some (.c n), some (.d (.dict (dsm m2 O))), some (.d (.str (bkD p m O).shown)), some (.d (rl m p).pd), x10, x11, x12]) ?_ ?_
    · simp
      refine w_rel hvb hp.v.dp hsub hrv ?_
      simp
    rintro ρ s2 ⟨rfl, rfl⟩
    have hshow := show_pol hrv.nd (by have := hrv.sz; omega) (by have := hrv.dp; omega)
    have hkk : gNe (.str (bkD p m O).shown) (.str (bkD p m O).shown) = some false := gNe_same hsw.2
    refine seq_cut (fun ρ s' => s' = s2 ∧ ρ = [some (.s ns), some (.d kk), some (.c uix), some (.d (.int (i : Int))), some (.d p.pd), some (.d (.list (O.map PyData.str))), some (.c n), some (.d (.dict (dsm m2 O))), some (.d (.str (bkD p m O).shown)), some (.d (rl m p).pd), x10, x11, x12]) ?_ ?_
    · simp [hshow]
      refine w_called 12 hvb (by have := hp.d; omega) hsub ?_
      have hks : gNe (.str (PyData.list [p.pd, .dict (dsm m O)]).shown) (.str (bkD p m O).shown) = some false := hkk
      simp [hshow, same_sh hrv.nd, hvd, hsw1, szl, hks]
    rintro ρ s2 ⟨rfl, rfl⟩
    -- and back
    have hbk : ∀ l ∈ O, m1 (m l) = l := fun l h => by
      have : ∀ L : List Str, (L.map m).map m1 = L → ∀ l ∈ L, m1 (m l) = l := by
        intro L
        induction L with
        | nil => exact fun _ _ h => nomatch h
        | cons a L ih =>
          intro e l hl
          rw [List.map_cons, List.map_cons] at e
          injection e with e1 e2
          rcases List.mem_cons.mp hl with rfl | hl
          · exact e1
          · exact ih e2 l hl
      exact this O hm1 l h
    refine seq_cut (fun ρ s' => s' = s2 ∧ ρ = [some (.s ns), some (.d kk), some (.c uix), some (.d (.int (i : Int))), some (.d p.pd), some (.d (.list (O.map PyData.str))), some (.c n), some (.d (.dict (dsm m2 O))), some (.d (.str (bkD p m O).shown)), some (.d (rl m p).pd), some (.d (.dict (dsm m1 (O.map m)))), x11, x12]) ?_ ?_
    · simp
      refine lc_map (fun d => match d with
        | .str l => .tuple [.str (m l), .str l]
        | d => d) (fun d hd => ?_) (by rw [List.length_map, szl]; omega) ?_
      · obtain ⟨l, hl', rfl⟩ := List.mem_map.mp hd
        simp [wipeE, hvb, dsm_dix hl', szl]
      · have e1 : (O.map PyData.str).map (fun d => match d with
          | .str l => .tuple [.str (m l), .str l]
          | d => d) = Cp.prD m1 (O.map m) := by
          unfold Cp.prD
          rw [List.map_map, List.map_map]
          refine List.map_congr_left fun l hl => ?_
          show PyData.tuple [.str (m l), .str l] = .tuple [.str (m l), .str (m1 (m l))]
          rw [hbk l hl]
        rw [e1]
        have ed := dictP_dsm (m := m1) hmn
        simp [ed]
    rintro ρ s2 ⟨rfl, rfl⟩
    have hrb : rl m1 (rl m p) = p := rl_rl fun l h => hbk l (hsub l h)
    have hlm : ∀ l ∈ (rl m p).labs, l ∈ O.map m := fun l h => by
      rw [rl_labs] at h
      obtain ⟨x, hx, rfl⟩ := List.mem_map.mp h
      exact List.mem_map_of_mem (hsub x hx)
    have hm2i : ∀ l ∈ O, m2 l ∈ O := fun l h => by
      have : m2 l ∈ O.map m2 := List.mem_map_of_mem h
      rw [hm2] at this
      exact List.mem_reverse.mp this
    have hm2j := inj_of (m := m2) (ls := O) (by rw [hm2]; exact (List.reverse_perm O).nodup_iff.mpr hOn)
    have hrv2 : (rl m2 p).Valid := rl_valid hp.v (fun l h => hil _ (hm2i l (hsub l h))) fun a ha b hb => hm2j a (hsub a ha) b (hsub b hb)
    refine seq_cut (fun ρ s' => s' = s2 ∧ ρ = [some (.s ns), some (.d kk), some (.c uix), some (.d (.int (i : Int))), some (.d p.pd), some (.d (.list (O.map PyData.str))), some (.c n), some (.d (.dict (dsm m2 O))), some (.d (.str (bkD p m O).shown)), some (.d (rl m p).pd), some (.d (.dict (dsm m1 (O.map m)))), x11, x12]) ?_ ?_
    · simp
      refine w_rel (m := m1) (ls := O.map m) (p := rl m p) rfl (by have := hrv.dp; omega) hlm (by rw [hrb]; exact hp.v) ?_
      rw [hrb]
      simp [same_pd hp.v]
      refine w_rel (m := m2) (ls := O) rfl hp.v.dp hsub hrv2 ?_
      simp
      refine w_called (m := m2) (ls := O) 12 rfl (by have := hp.d; omega) hsub ?_
      simp [same_pd hrv2]
    rintro ρ s2 ⟨rfl, rfl⟩
    -- one label for two
    have hn0 : n ≠ 0 := by omega
    have hnu : n ≠ uix := by omega
    simp
    by_cases h1 : O.length ≤ 1
    · rw [if_neg (by omega)]
      exact ⟨⟨_, _, _, _, _, _, _, _, _, _, rfl⟩, hz2, hs1, u2, hU2.mono (by omega), hu2⟩
    rw [if_pos (by omega)]
    obtain ⟨a, L, b, eO⟩ := ends_of O (by omega)
    have ha : a ∈ O := by rw [eO]; exact List.mem_cons_self ..
    have hb : b ∈ O := by rw [eO]; simp
    have hab : a ≠ b := fun z => by
      have := hOn
      rw [eO] at this
      exact (List.nodup_cons.mp this).1 (by rw [z]; simp)
    have hA : atI (O.map PyData.str) 0 = some (.str a) := by rw [eO, List.map_cons]; exact atI_zero _ _
    have hB : atI (O.map PyData.str) (-1) = some (.str b) := by
      have : O.map PyData.str = (a :: L).map PyData.str ++ [.str b] := by rw [eO]; simp
      rw [this]
      exact atI_lastZ _ _
    obtain ⟨m3, hm3⟩ : ∃ m3 : Str → Str, m3 = fun l => if l = a then m b else m l := ⟨_, rfl⟩
    have hput : putD (dsm m O) (.str a) (.str (m b)) = dsm m3 O := by rw [hm3]; exact dsm_put ha
    have hml3 : ∀ l ∈ O, IsLab (m3 l) := fun l h => by
      rw [hm3]
      show IsLab (if l = a then m b else m l)
      split
      · exact hml b hb
      · exact hml l h
    have hdl : (dsm m O).length < sizeLine := by
      have : (dsm m O).length = O.length := by unfold dsm; rw [dkv_len]; exact List.length_map _
      rw [this, szl]; omega
    have hn3 : (rl m3 p).All Pol.Node := rl_node hp.v.nd fun l h => hml3 l (hsub l h)
    have hdup : ¬ (rl m3 p).labs.Nodup := fun z => by
      rw [rl_labs] at z
      have := inj_of z a (hpm.subset ha) b (hpm.subset hb) (by rw [hm3]; simp)
      exact hab this
    have hcl : n < s2.length := by omega
    have hb3 : (s2.set n (.m (dsm m3 O)))[n]? = some (.m (dsm m3 O)) := List.getElem?_set_self hcl
    have hz3 : (s2.set n (.m (dsm m3 O)))[0]? = some tb0 := by rw [List.getElem?_set_ne hn0]; exact hz2
    have hu3 : (s2.set n (.m (dsm m3 O)))[uix]? = some u2 := by rw [List.getElem?_set_ne hnu]; exact hu2
    have hs3 : (s2.set n (.m (dsm m3 O))).length = s2.length := List.length_set ..
    simp [hA, hB, hb2, dsm_gone, dsm_look hb, dsm_ok, hdl, hput]
    generalize s2.set n (Cl.m (dsm m3 O)) = s3 at hb3 hz3 hu3 hs3 ⊢
    refine w_called (m := m3) (ls := O) 12 (view_cell hb3) (by have := hp.d; omega) hsub ?_
    simp [szl]
    have okt : okS (.tuple [.str "policy", (rl m3 p).pd]) := ⟨sgn_ofS "policy", Pol.okS hn3, trivial⟩
    have hsh : fRepr (.tuple [.str "policy", (rl m3 p).pd]) = some (.d (.str (PyData.tuple [.str "policy", (rl m3 p).pd]).shown)) := fRepr_at okt (by
      show siz (.str (Str.ofString "policy")) + 2 + (siz (rl m3 p).pd + 2 + 0) + 3 ≤ sizeLine
      have g1 : siz (.str (Str.ofString "policy")) ≤ 102 := siz_kind "policy" (by decide)
      have g2 := Pol.siz_le hn3
      rw [rl_size] at g2
      have g3 : p.size * 500 ≤ 40 * 500 := Nat.mul_le_mul_right _ hp.v.sz
      rw [szl]; omega) (by
      show max 0 (max (rl m3 p).pd.depth 0) + 1 ≤ 60
      have g := (rl m3 p).pd_depth
      rw [rl_depth] at g
      have := hp.d
      omega)
    have hss : gNe (.str (PyData.tuple [.str "policy", (rl m3 p).pd]).shown) (.str (PyData.tuple [.str "policy", (rl m3 p).pd]).shown) = some false := gNe_same (shaped_ok (d := .str (PyData.tuple [.str "policy", (rl m3 p).pd]).shown) (shown_sgn okt) (Nat.zero_le _))
    have ht : List.take (List.length s2) s3 = s3 := by rw [← hs3]; exact List.take_length
    rw [ht]
    have hm : ∃ e s, mCall sem_relabelled (aCons (mV (mN 4)) (aCons (mV (mN 6)) aNil)) (((dOnly [some (Vl.s ns), some (Vl.d kk), some (Vl.c uix), some (Vl.d (PyData.int ↑i)), some (Vl.d p.pd),
        some (Vl.d (PyData.list (List.map PyData.str O))), some (Vl.c n), some (Vl.d (PyData.dict (dsm m2 O))),
        some (Vl.d (PyData.str (bkD p m O).shown)), some (Vl.d (rl m p).pd),
        some (Vl.d (PyData.dict (dsm m1 (List.map m O)))),
        some (Vl.d (PyData.tuple [PyData.str (Str.ofString "policy"), (rl m3 p).pd])), x12]).set 6 (some (.dict (dsm m3 O)))).map (Option.map Vl.d)) (s3.set n gone) = .er e s ∧ e = ⟨Str.ofString "InvalidPolicy", some (Str.ofString "value", (rl m3 p).pd)⟩ ∧ s = s3.set n gone := by
      refine wv_er ?_
      simp [dOnly]
      refine w_rel_bad (m := m3) (ls := O) rfl hp.v.dp hp.v.sz hsub hn3 hdup ?_
      exact ⟨rfl, by simp⟩
    obtain ⟨_, _, hm, rfl, rfl⟩ := hm
    refine W_mLamZ (i := n) (kvs := dsm m3 O) rfl hb3 (dsm_gone _) hz3 (fun T => caught_pol hm) ?_
    have hl4 : (s3.set n gone).length = s3.length := List.length_set ..
    have hz4 : (s3.set n gone)[0]? = some tb0 := by rw [List.getElem?_set_ne hn0]; exact hz3
    have hu4 : (s3.set n gone)[uix]? = some u2 := by rw [List.getElem?_set_ne hnu]; exact hu3
    generalize s3.set n gone = s4 at hl4 hz4 hu4 ⊢
    simp [hsh, hss, ← hl4]
    exact ⟨⟨_, _, _, _, _, _, _, _, _, _, rfl⟩, hz4, hs1, u2, hU2.mono (by omega), hu4⟩
  · rintro ρ s ⟨⟨x1, x2, x3, x4, x5, x6, x7, x8, x9, x10, x11, x12, rfl⟩, _⟩
    simp
end
theorem sem_true (ns : List Int) (hl : ns.length ≤ 63) : ∃ st, sem_law [.s ns] [tb0] = .ok (.d (.bool true)) st := by
  obtain ⟨r, s, e, rfl⟩ := WV_ex (w_law hl)
  exact ⟨s, e⟩
end K11
theorem PySem.Challenge.cw_callpolicy_k11_policies_relabelled_holds : PySem.Challenge.rw_callpolicy_k11_policies_relabelled.Holds := by
  exact K11.holds_of K11.sem_true
