import PyProof.Rows.All
import Wide.All
import OpenK.AllK
import Wide.FinOn
import PySem.Challenge.RW_standviews_k15_what_is_a_right
import HandS.ForMost
import HandS.Flow
import KE.KDictKeyed
import HandS.ExcInit
import HandS.ExcValue
import HandS.Nested
import PyProof.ReprReads
import HandS.Ends
import HandS.Zip
import KE.KEqNest
import PyProof.NeKinds
import HandS.TupAny
import HandS.List
import HandS.Style
import HandS.IsInst
import HandS.Strs
import HandS.TupLe
import PyProof.Rows.IntBool
import PyProof.TwoTypesSub
import PyProof.CollectIter
import PyProof.MakeMany
import HandS.TupMul
import HandS.More
import HandS.EndBits
import HandS.Set
import PyProof.ReprRoads
import HandS.RaiseMore
import HandS.HeadHook3
import PyProof.AutoSeq1
import PyProof.SeqRoads
import HandS.TryOnly
import KE.GoesNew
import KE.GoesMore
import KE.SortKeyHeap
import HandS.SortKw
import HandS.DictComp
import HandS.DictSubView
import KE.KDictList
import HandS.Iter
import KE.GoesEnum
import PyProof.ReprLen
import HandS.Exc
import HandS.ExcField
import HandS.ExcIs
import HandS.ExcOwn
import HandS.ClsMeth
import KE.KExcIs
import PyProof.Rows.RuleU_int
import PyProof.FactsAll.bool_2
import KE.KNestM
import HandS.Defaults
import HandS.MakeKwOnly
import HandS.Spec
import HandS.WordsDict
import KE.KDictPairs
import HandS.Dict
import HandS.SetFor
import HandS.StrMore
set_option Elab.async false
set_option linter.all false
set_option maxRecDepth 1000000
set_option maxHeartbeats 2000000
/-! G0: deep values, stores, the relation to the tracked heap; judgements by functions. -/
namespace G
/-- a lambda of the text: its qualified name, parameters, body, names, captured names -/
structure Lm where
  q : PySem.Str
  ps : PySem.Arguments
  b : PySem.Expr
  sc : PySem.Scope
  fr : List PySem.Str
/-- the world whose hashes the dicts keyed by rows bear; the makers' tables, the lambdas -/
class Wld where
  w : PySem.World
  tb : Nat → PySem.Addr := fun _ => 0
  tq : Nat → PySem.Str := fun _ => ""
  lm : Nat → Lm := fun _ => ⟨"", default, default, default, []⟩
  cls : Nat → PySem.Addr := fun _ => 0
variable [Wld]
open PySem PySem.Spec PyProof.Rows L2

/-- deep data; ref: an object of the store -/
inductive D where
  | non | bl (b : Bool) | int (i : Int) | str (x : Str) | tup (ds : List D) | lst (ds : List D) | dic (ks : List Key) (ds : List D) | ref (n : Nat) | fn (a : Addr) | exc (C : Addr) (ns : List Str) (ds : List D)
/-- an object that may change -/
inductive O where
  | lst (ds : List D) | dct (kvs : List (Key × D)) | kd (kvs : List (D × D)) | tab (n : Nat) | ins (c : Nat) (ns : List Str) (ds : List D) | kx (kvs : List (Key × D))
/-- what an expression gives -/
inductive R where
  | d (x : D) | new (o : O) | brw (o : O) | loc (i : Nat) | lm (i : Nat) (cs : List D)
/-- what a slot holds -/
inductive Sl where
  | d (x : D) | own (o : O) | brw (o : O) | lm (i : Nat) (cs : List D)
abbrev SV := L2.St
abbrev En := List (Option Sl)
abbrev Sto := List O
abbrev M (α : Type) := En → Sto → Option (α × En × Sto)

mutual
/-- a row as a key -/
def nk : D → Option NestedKey
  | .non => some .none
  | .int i => some (.num i)
  | .str x => some (.text x)
  | .tup ds => (nks ds).map .tup
  | _ => none
def nks : List D → Option (List NestedKey)
  | [] => some []
  | d :: ds => match nk d, nks ds with
    | some k, some ks => some (k :: ks)
    | _, _ => none
end
/-- a key that is a row -/
def ktup : NestedKey → Bool
  | .tup _ => true
  | _ => false
/-- a key that is a worth -/
def lfOf : NestedKey → Leaf
  | .num i => .num i
  | .text x => .text x
  | _ => .none
/-- one object, just as it stands -/
abbrev exa (a : Addr) (o : PySem.Obj) : HO := .ext fun h => h.get? a = some o
/-- the words of a lambda -/
abbrev lmF (qual : Str) (params : Arguments) (scope : Scope) (cl : List (Str × Addr)) (c : Addr) : NdefX.NF := ⟨"<lambda>", qual, params, [], scope, cl, c⟩
/-- the object at f is the lambda of F's words with the body b -/
def LmO (f : Addr) (F : NdefX.NF) (b : Expr) : HO :=
  .ext fun h => ∃ (od : Option Addr) (sl : Array (Option Value)) (pm tv : Value), h.get? f = some (⟨.type "function", od, .func (PySem.W.kla_fn F.name F.qual F.params b F.scope F.cl pm (.ref F.c) tv), sl⟩ : PySem.Obj)
/-- a lambda or a captured cell -/
def LmU (a : Addr) (u : HO) : Prop := (∃ F b, u = LmO a F b) ∨ ∃ o v, u = exa a o ∧ o.data = .cell v
/-- an object with such data, at a -/
theorem at_rep {a : Addr} {o : PySem.Obj} (hf : o.data ≠ .freed) : ({ objs := Array.replicate (a + 1) o } : Heap).get? a = some o := by
  obtain ⟨c, d, dt, sl⟩ := o
  cases dt <;> first | exact absurd rfl hf | simp [Heap.get?]
/-- an exception of the class C at a, with a dict of its own or none -/
def ExcS (H : Hp) (a C : Addr) : Prop := H a = some (ExO (.ref C) a) ∨ ∃ dd u, H a = some (exo a C (some dd)) ∧ H dd = some u ∧ ¬ LmU dd u
/-- no exception at a -/
def NS (a : Addr) (u : HO) : Prop := (∀ C, u ≠ ExO (.ref C) a) ∧ (∀ C d, u ≠ exo a C d) ∧ (∀ q, u ≠ LamX.CodeO a q) ∧ ¬ LmU a u
theorem lmu_of {a : Addr} {u : HO} (h : ∀ p, u ≠ .ext p) : ¬ LmU a u := by
  rintro (⟨F, b, z⟩ | ⟨o, v, z, _⟩)
  · exact h _ z
  · exact h _ z
theorem lmu_lst {a : Addr} {xs : List V} : ¬ LmU a (.lst xs) := lmu_of fun _ z => nomatch z
theorem lmu_dK {a : Addr} {xs : List (Key × V)} : ¬ LmU a (.dK xs) := lmu_of fun _ z => nomatch z
/-- what is no code object -/
theorem co_lst {a : Addr} {q : Str} {xs : List V} : HO.lst xs ≠ LamX.CodeO a q := fun z => by unfold LamX.CodeO at z; cases z
theorem co_dK {a : Addr} {q : Str} {xs : List (Key × V)} : HO.dK xs ≠ LamX.CodeO a q := fun z => by unfold LamX.CodeO at z; cases z
theorem co_ins {a C dx : Addr} {q : Str} {fs : List (Str × V)} : HO.ins C dx fs ≠ LamX.CodeO a q := fun z => by unfold LamX.CodeO at z; cases z
/-- a list that nobody writes: locked, or of the text's own -/
def LF (K : PySem.W.Frag) (H : Hp) (a : Addr) (xs : List V) : Prop := (∃ o, H a = some (.frz o (.lst xs))) ∨
  ∃ (o : PySem.Obj) (its : Array Value) (n : Nat), K.lookup a = some o ∧ o.cls = .type "list" ∧ o.dict = none ∧ o.data = .seq its n ∧ its.size ≤ sizeLine ∧ Vals xs its.toList
theorem LF.sq {K : PySem.W.Frag} {H : Hp} {a : Addr} {xs : List V} (h : LF K H a xs) : SqL K H a xs := by
  rcases h with ⟨o, h⟩ | h
  · exact .inl (.inr ⟨o, h⟩)
  · exact .inr h
/-- a tuple with no dict of its own -/
def SqTn (K : PySem.W.Frag) (H : Hp) (a : Addr) (xs : List V) : Prop := (∃ o : PySem.Obj, H a = some (.frz o (.tup xs)) ∧ o.dict = none) ∨
  ∃ (o : PySem.Obj) (its : Array Value) (n : Nat), K.lookup a = some o ∧ o.cls = .type "tuple" ∧ o.dict = none ∧ o.data = .seq its n ∧ its.size ≤ sizeLine ∧ Vals xs its.toList
theorem SqTn.sq {K : PySem.W.Frag} {H : Hp} {a : Addr} {xs : List V} (h : SqTn K H a xs) : SqT K H a xs := by
  rcases h with ⟨o, h, _⟩ | ⟨o, its, n, h1, h2, _, h3, h4, h5⟩
  · exact .inl (.inr ⟨o, h⟩)
  · exact .inr ⟨o, its, n, h1, h2, h3, h4, h5⟩
instance {K : PySem.W.Frag} {H : Hp} {a : Addr} {xs : List V} : Coe (SqTn K H a xs) (SqT K H a xs) := ⟨SqTn.sq⟩
/-- the object of such a tuple -/
abbrev tpo (us : List Value) : PySem.Obj := { cls := .type "tuple", data := .seq us.toArray }
theorem SqTn.mk {K : PySem.W.Frag} {H : Hp} {p : Addr} {us : List Value} {xs : List V} : SqTn K (upd H p (.frz (tpo us) (.tup xs))) p xs := .inl ⟨_, upd_same, rfl⟩
/-- the dict of an exception, locked; none: no fields -/
def XdAt (H : Hp) : Option Addr → List (Str × V) → Prop
  | none, fs => fs = []
  | some dd, fs => ∃ od, H dd = some (.frz od (.xd fs))
section
variable (K : PySem.W.Frag) (H : Hp) (ι : List Addr)
mutual
inductive RD : V → D → Prop
  | non : RD .non .non
  | bl (b : Bool) : RD (.bl b) (.bl b)
  | int (i : Int) : RD (.int i) (.int i)
  | str (x : Str) : RD (.str x) (.str x)
  | tup {a : Addr} {xs : List V} {ds : List D} : SqTn K H a xs → RDs xs ds → RD (.ref a) (.tup ds)
  | lst {a : Addr} {xs : List V} {ds : List D} : LF K H a xs → RDs xs ds → RD (.ref a) (.lst ds)
  | dic {a : Addr} {o : PySem.Obj} {xs : List V} {ks : List Key} {ds : List D} : H a = some (.frz o (.dK (ks.zip xs))) → ks.length = ds.length → RDs xs ds → RD (.ref a) (.dic ks ds)
  | ref {n : Nat} {a : Addr} : ι[n]? = some a → RD (.ref a) (.ref n)
  | fn (a : Addr) : RD (.ref a) (.fn a)
  | exc {a C : Addr} {oa : PySem.Obj} {d : Option Addr} {xs : List V} {ns : List Str} {ds : List D} : H a = some (.frz oa (.own a)) → Zc (.ref C) d oa → (∃ vs, oa.data = .fields vs) → XdAt H d (ns.zip xs) → ns.length = ds.length → RDs xs ds → RD (.ref a) (.exc C ns ds)
inductive RDs : List V → List D → Prop
  | nil : RDs [] []
  | cons {v : V} {vs : List V} {d : D} {ds : List D} : RD v d → RDs vs ds → RDs (v :: vs) (d :: ds)
end
def RK (ws : List (Key × V)) (kvs : List (Key × D)) : Prop := Paired (fun (p : Key × V) (q : Key × D) => p.1 = q.1 ∧ RD K H ι p.2 q.2) ws kvs
/-- what stands as a key -/
def KyR (k : NestedKey) (u : Value) (d : D) : Prop := (ktup k = true ∧ ∃ y, RelV y u ∧ RD K H ι y d) ∨ (ktup k = false ∧ Leaf.isOf (lfOf k) u = true)
/-- a dict keyed by rows or by worths, entry by entry -/
structure KdAt (a : Addr) (kvs : List (D × D)) (o : PySem.Obj) (es : Array DictEntry) (ep : Nat) (xs : List (NestedKey × Value × V × Value)) : Prop where
  at_ : H a = some (exa a o)
  ex : o.ExactDict
  dt : o.data = .dict es ep
  en : es.toList = xs.map fun x => ⟨x.1.hash Wld.w, x.2.1, x.2.2.2⟩
  nd : (xs.map (·.1)).Nodup
  sz : xs.length ≤ sizeLine
  sm : (a == sysModules) = false
  dp : ∀ x ∈ xs, x.1.depth ≤ 8
  md : ∃ b, ∀ x ∈ xs, ktup x.1 = b
  pr : Paired (fun (x : NestedKey × Value × V × Value) (q : D × D) => nk q.1 = some x.1 ∧ KyR K H ι x.1 x.2.1 q.1 ∧ RelV x.2.2.1 x.2.2.2 ∧ RD K H ι x.2.2.1 q.2) xs kvs
def RO (a : Addr) : O → Prop
  | .kd kvs => ∃ o es ep xs, KdAt K H ι a kvs o es ep xs
  | .tab n => a = Wld.tb n ∧ LamX.TabS H a (Wld.tq n)
  | .ins c ns ds => ∃ dx xs, H a = some (.ins (Wld.cls c) dx (ns.zip xs)) ∧ ns.length = ds.length ∧ RDs K H ι xs ds
  | .kx kvs => ∃ o ws, H a = some (.frz o (.frz o (.dK ws))) ∧ RK K H ι ws kvs
  | .lst ds => ∃ xs, H a = some (.lst xs) ∧ RDs K H ι xs ds
  | .dct kvs => ∃ ws, H a = some (.dK ws) ∧ RK K H ι ws kvs
/-- the lambda i that captured cs; Z: of the places where it and its cells stand -/
def LmR (v : V) (i : Nat) (cs : List D) (Z : Addr → Prop) : Prop := ∃ (f c : Addr) (cl : List (Str × Addr)), v = .ref f ∧ H f = some (LmO f (lmF (Wld.lm i).q (Wld.lm i).ps (Wld.lm i).sc cl c) (Wld.lm i).b) ∧ H c = some (LamX.CodeO c (Wld.lm i).q) ∧ Z f ∧
  (∀ y a, cl.lookup y = some a → Z a ∧ ∃ o v, H a = some (exa a o) ∧ o.data = .cell v) ∧ (∀ x y a, cl.lookup x = some a → cl.lookup y = some a → x = y) ∧ cs.length = (Wld.lm i).fr.length ∧
  ∀ (j : Nat) (y : Str) (d : D), (Wld.lm i).fr[j]? = some y → cs[j]? = some d → ∃ a o u v, cl.lookup y = some a ∧ H a = some (exa a o) ∧ o.data = .cell (some u) ∧ RelV v u ∧ RD K H ι v d
def RSl (v : V) : Sl → Prop
  | .lm i cs => LmR K H ι v i cs fun _ => True
  | .d x => RD K H ι v x
  | .own o => ∃ a, v = .ref a ∧ RO K H ι a o
  | .brw o => ∃ a, v = .ref a ∧ RO K H ι a o
end
def Sl.isObj : Sl → Prop
  | .d _ => False
  | .lm _ _ => False
  | _ => True
def Own (σ : SV) (e : En) (a : Addr) : Prop := ∃ (i : Nat) (o : O), e[i]? = some (some (.own o)) ∧ σ[i]? = some (some (.ref a))
def Obj (σ : SV) (e : En) (a : Addr) : Prop := ∃ (i : Nat) (s : Sl), e[i]? = some (some s) ∧ s.isObj ∧ σ[i]? = some (some (.ref a))
structure Rel (K : PySem.W.Frag) (H : Hp) (ι : List Addr) (σ : SV) (e : En) (S : Sto) : Prop where
  len : σ.length = e.length
  sl : ∀ (i : Nat) (s : Sl), e[i]? = some (some s) → ∃ v, σ[i]? = some (some v) ∧ RSl K H ι v s
  ilen : ι.length = S.length
  st : ∀ (n : Nat) (o : O) (a : Addr), S[n]? = some o → ι[n]? = some a → RO K H ι a o
  nd : ι.Nodup
  own : ∀ (i : Nat) (o : O) (a : Addr), e[i]? = some (some (.own o)) → σ[i]? = some (some (.ref a)) → a ∉ ι ∧ ∀ (j : Nat) (s : Sl) (b : Addr), j ≠ i → e[j]? = some (some s) → s.isObj → σ[j]? = some (some (.ref b)) → a ≠ b
  brw : ∀ (i : Nat) (o : O) (a : Addr), e[i]? = some (some (.brw o)) → σ[i]? = some (some (.ref a)) → a ∉ ι
theorem Obj.of {σ : SV} {e : En} {a : Addr} (h : Own σ e a) : Obj σ e a := let ⟨i, o, h1, h2⟩ := h; ⟨i, _, h1, trivial, h2⟩
/-- tuples and locked things stay -/
structure Stay (H H' : Hp) : Prop where
  tup : ∀ a xs, H a = some (.tup xs) → H' a = some (.tup xs)
  frz : ∀ a o u, H a = some (.frz o u) → H' a = some (.frz o u)
  exc : ∀ a C, ExcS H a C → ExcS H' a C
  cod : ∀ a q, H a = some (LamX.CodeO a q) → H' a = some (LamX.CodeO a q)
  lmu : ∀ a u, H a = some u → LmU a u → H' a = some u
structure Post (H : Hp) (ι : List Addr) (σ : SV) (e : En) (H' : Hp) (ι' : List Addr) (σ' : SV) (e' : En) : Prop where
  pre : ∃ l, ι' = ι ++ l
  stay : Stay H H'
  dom : ∀ a o, H a = some o → ∃ o', H' a = some o'
  keep : ∀ a o, H a = some o → a ∉ ι → ¬ Own σ e a → H' a = some o ∧ a ∉ ι' ∧ ¬ Own σ' e' a ∧ (¬ Obj σ e a → ¬ Obj σ' e' a)

theorem exa_inj {a : Addr} {o o' : PySem.Obj} (h : exa a o = exa a o') (hf : o.data ≠ .freed) : o = o' := by
  have e := congrFun (HO.ext.inj h) { objs := Array.replicate (a + 1) o }
  have h1 := at_rep (a := a) hf
  have h2 := e.mp h1
  rw [h1] at h2
  exact Option.some.inj h2
theorem exa_ns {a : Addr} {o : PySem.Obj} (h : ∀ vs, o.data ≠ .fields vs) (hf : o.data ≠ .freed) (hcl : ∀ v, o.data ≠ .cell v) (hfn : ∀ fd, o.data ≠ .func fd) : NS a (exa a o) := by
  have hg : ({ objs := Array.replicate (a + 1) o } : Heap).get? a = some o := by
    obtain ⟨c, d, dt, sl⟩ := o
    cases dt <;> first | exact absurd rfl hf | simp [Heap.get?]
  refine ⟨fun C z => ?_, fun C d z => ?_, fun q z => ?_, ?_⟩
  · have e := congrFun (HO.ext.inj z) { objs := Array.replicate (a + 1) o }
    obtain ⟨oe, vs, h1, _, h2, _⟩ := e.mp hg
    rw [hg] at h1
    cases h1
    exact h vs h2
  · have e := congrFun (HO.ext.inj z) { objs := Array.replicate (a + 1) o }
    obtain ⟨t1, h1⟩ := e.mp hg
    rw [hg] at h1
    cases h1
    exact h _ rfl
  · unfold LamX.CodeO at z
    have e := congrFun (HO.ext.inj z) { objs := Array.replicate (a + 1) o }
    obtain ⟨oe, vs, t, h1, h2, _⟩ := e.mp hg
    rw [hg] at h1
    cases h1
    exact h vs h2
  · rintro (⟨F, b, z⟩ | ⟨o2, v, z, e2⟩)
    · unfold LmO at z
      obtain ⟨od, sl, pm, tv, e3⟩ := (congrFun (HO.ext.inj z) { objs := Array.replicate (a + 1) o }).mp hg
      rw [hg] at e3
      exact hfn (PySem.W.kla_fn F.name F.qual F.params b F.scope F.cl pm (.ref F.c) tv) (by rw [Option.some.inj e3])
    · obtain rfl := exa_inj z hf
      exact hcl v e2
theorem Stay.refl (H : Hp) : Stay H H := ⟨fun _ _ h => h, fun _ _ _ h => h, fun _ _ h => h, fun _ _ h => h, fun _ _ h _ => h⟩
theorem Stay.trans {H H1 H2 : Hp} (a : Stay H H1) (b : Stay H1 H2) : Stay H H2 := ⟨fun x y h => b.tup x y (a.tup x y h), fun x y z h => b.frz x y z (a.frz x y z h), fun x y h => b.exc x y (a.exc x y h), fun x y h => b.cod x y (a.cod x y h), fun x y h z => b.lmu x y (a.lmu x y h z) z⟩
theorem Stay.new {H : Hp} {p : Addr} {o : HO} (h : H p = none) : Stay H (upd H p o) :=
  ⟨fun a xs e => by rw [upd_ne (ne_of_none e h)]; exact e, fun a o xs e => by rw [upd_ne (ne_of_none e h)]; exact e, fun a C e => by
    rcases e with e | ⟨dd, u, e, e2, e3⟩
    · exact .inl (by rw [upd_ne (ne_of_none e h)]; exact e)
    · exact .inr ⟨dd, u, by rw [upd_ne (ne_of_none e h)]; exact e, by rw [upd_ne (ne_of_none e2 h)]; exact e2, e3⟩, fun a q e => by rw [upd_ne (ne_of_none e h)]; exact e, fun a q e _ => by rw [upd_ne (ne_of_none e h)]; exact e⟩
theorem Stay.mut {H : Hp} {p : Addr} {o u : HO} (h : H p = some u) (n1 : ∀ xs, u ≠ .tup xs) (n2 : ∀ o x, u ≠ .frz o x) (n3 : NS p u := by first | exact ⟨fun _ z => (nomatch z), fun _ _ z => (nomatch z), fun _ => co_lst, lmu_lst⟩ | exact ⟨fun _ z => (nomatch z), fun _ _ z => (nomatch z), fun _ => co_dK, lmu_dK⟩) (n4 : ¬ LmU p o := by first | exact lmu_lst | exact lmu_dK | exact lmu_of (fun _ z => nomatch z)) : Stay H (upd H p o) :=
  ⟨fun a xs e => by rw [upd_ne (ne_of e h (n1 xs).symm)]; exact e, fun a o xs e => by rw [upd_ne (ne_of e h (n2 _ _).symm)]; exact e, fun a C e => by
    rcases e with e | ⟨dd, v, e, e2, e3⟩
    · have hne : a ≠ p := fun z => by subst z; rw [h] at e; exact n3.1 _ (Option.some.inj e)
      exact .inl (by rw [upd_ne hne]; exact e)
    · have hne : a ≠ p := fun z => by subst z; rw [h] at e; exact n3.2.1 _ _ (Option.some.inj e)
      by_cases hd : dd = p
      · subst hd
        exact .inr ⟨dd, o, by rw [upd_ne hne]; exact e, upd_same, n4⟩
      · exact .inr ⟨dd, v, by rw [upd_ne hne]; exact e, by rw [upd_ne hd]; exact e2, e3⟩, fun a q e => by
    have hne : a ≠ p := fun z => by subst z; rw [h] at e; exact n3.2.2.1 _ (Option.some.inj e)
    rw [upd_ne hne]; exact e, fun a q e z => by
    have hne : a ≠ p := fun y => by subst y; rw [h] at e; rw [← Option.some.inj e] at z; exact n3.2.2.2 z
    rw [upd_ne hne]; exact e⟩
theorem Post.refl {H : Hp} {ι : List Addr} {σ : SV} {e : En} : Post H ι σ e H ι σ e := ⟨⟨[], by simp⟩, .refl _, fun _ o h => ⟨o, h⟩, fun _ _ h1 h2 h3 => ⟨h1, h2, h3, fun h => h⟩⟩
theorem Post.trans {H H1 H2 : Hp} {ι ι1 ι2 : List Addr} {σ σ1 σ2 : SV} {e e1 e2 : En} (a : Post H ι σ e H1 ι1 σ1 e1) (b : Post H1 ι1 σ1 e1 H2 ι2 σ2 e2) : Post H ι σ e H2 ι2 σ2 e2 := by
  obtain ⟨⟨l, rfl⟩, s, d, k⟩ := a
  obtain ⟨⟨l', rfl⟩, s', d', k'⟩ := b
  exact ⟨⟨l ++ l', by simp⟩, s.trans s', fun x o h => let ⟨o1, h1⟩ := d x o h; d' x o1 h1, fun x o h1 h2 h3 => let ⟨q1, q2, q3, q4⟩ := k x o h1 h2 h3; let ⟨z1, z2, z3, z4⟩ := k' x o q1 q2 q3; ⟨z1, z2, z3, fun h => z4 (q4 h)⟩⟩

section
variable {K : PySem.W.Frag} {H H' : Hp} {ι ι' : List Addr}
theorem stay_t (s : Stay H H') {a : Addr} {xs : List V} (h : SqT K H a xs) : SqT K H' a xs := by
  rcases h with (h | ⟨o, h⟩) | h
  · exact .inl (.inl (s.tup _ _ h))
  · exact .inl (.inr ⟨o, s.frz _ _ _ h⟩)
  · exact .inr h
theorem stay_tn (s : Stay H H') {a : Addr} {xs : List V} (h : SqTn K H a xs) : SqTn K H' a xs := by
  rcases h with ⟨o, h, d⟩ | h
  · exact .inl ⟨o, s.frz _ _ _ h, d⟩
  · exact .inr h
theorem stay_l (s : Stay H H') {a : Addr} {xs : List V} (h : LF K H a xs) : LF K H' a xs := by
  rcases h with ⟨o, h⟩ | h
  · exact .inl ⟨o, s.frz _ _ _ h⟩
  · exact .inr h
theorem XdAt.mono (f : ∀ b o gs, H b = some (.frz o (.xd gs)) → H' b = some (.frz o (.xd gs))) {d : Option Addr} {fs : List (Str × V)} (h : XdAt H d fs) : XdAt H' d fs := by
  cases d with
  | none => exact h
  | some dd => obtain ⟨od, e⟩ := h; exact ⟨od, f _ _ _ e⟩
mutual
theorem RD.mono (s : Stay H H') (p : ∃ l, ι' = ι ++ l) : ∀ (d : D) (v : V), RD K H ι v d → RD K H' ι' v d
  | .non, _, h => by cases h; exact .non
  | .bl b, _, h => by cases h; exact .bl b
  | .int b, _, h => by cases h; exact .int b
  | .str b, _, h => by cases h; exact .str b
  | .tup ds, _, h => by cases h with | tup h1 h2 => exact .tup (stay_tn s h1) (RDs.mono s p ds _ h2)
  | .lst ds, _, h => by cases h with | lst h1 h2 => exact .lst (stay_l s h1) (RDs.mono s p ds _ h2)
  | .dic ks ds, _, h => by cases h with | dic h1 h2 h3 => exact .dic (s.frz _ _ _ h1) h2 (RDs.mono s p ds _ h3)
  | .ref n, _, h => by
    cases h with | ref h1 =>
      obtain ⟨l, rfl⟩ := p
      exact .ref (by rw [List.getElem?_append_left (List.getElem?_eq_some_iff.mp h1).1]; exact h1)
  | .fn a, _, h => by cases h; exact .fn a
  | .exc C ns ds, _, h => by cases h with | exc h1 h2 h3 h4 h5 h6 => exact .exc (s.frz _ _ _ h1) h2 h3 (h4.mono fun _ _ _ => s.frz _ _ _) h5 (RDs.mono s p ds _ h6)
theorem RDs.mono (s : Stay H H') (p : ∃ l, ι' = ι ++ l) : ∀ (ds : List D) (vs : List V), RDs K H ι vs ds → RDs K H' ι' vs ds
  | [], _, h => by cases h; exact .nil
  | d :: ds, _, h => by cases h with | cons h1 h2 => exact .cons (RD.mono s p d _ h1) (RDs.mono s p ds _ h2)
end
theorem RK.mono (s : Stay H H') (p : ∃ l, ι' = ι ++ l) {ws : List (Key × V)} {kvs : List (Key × D)} (h : RK K H ι ws kvs) : RK K H' ι' ws kvs :=
  Paired.mapP h fun _ _ z => ⟨z.1, RD.mono s p _ _ z.2⟩
theorem KyR.mono (s : Stay H H') (p : ∃ l, ι' = ι ++ l) {k : NestedKey} {u : Value} {d : D} (h : KyR K H ι k u d) : KyR K H' ι' k u d :=
  h.imp (fun ⟨t, y, r, z⟩ => ⟨t, y, r, RD.mono s p _ _ z⟩) id
theorem RO.mono (s : Stay H H') (p : ∃ l, ι' = ι ++ l) {a : Addr} {o : O} (k : ∀ u, H a = some u → H' a = some u) (h : RO K H ι a o) : RO K H' ι' a o := by
  cases o with
  | tab q =>
    obtain ⟨h0, ps, h1, h2, h3⟩ := h
    exact ⟨h0, ps, k _ h1, h2, fun pos cv hc => let ⟨c, e1, e2⟩ := h3 pos cv hc; ⟨c, e1, s.cod _ _ e2⟩⟩
  | ins c ns ds => obtain ⟨dx, xs, h1, h2, h3⟩ := h; exact ⟨dx, xs, k _ h1, h2, RDs.mono s p _ _ h3⟩
  | lst ds => obtain ⟨xs, h1, h2⟩ := h; exact ⟨xs, k _ h1, RDs.mono s p _ _ h2⟩
  | dct kvs => obtain ⟨ws, h1, h2⟩ := h; exact ⟨ws, k _ h1, h2.mono s p⟩
  | kx kvs => obtain ⟨o, ws, h1, h2⟩ := h; exact ⟨o, ws, k _ h1, h2.mono s p⟩
  | kd kvs =>
    obtain ⟨o, es, ep, xs, h⟩ := h
    exact ⟨o, es, ep, xs, k _ h.at_, h.ex, h.dt, h.en, h.nd, h.sz, h.sm, h.dp, h.md, Paired.mapP h.pr fun _ _ z => ⟨z.1, z.2.1.mono s p, z.2.2.1, RD.mono s p _ _ z.2.2.2⟩⟩
theorem RO.there {a : Addr} {o : O} (h : RO K H ι a o) : ∃ u, H a = some u ∧ True ∧ (∀ xs, u ≠ .tup xs) ∧ ((∀ kvs, o ≠ .kx kvs) → ∀ o x, u ≠ .frz o x) := by
  cases o with
  | tab q => obtain ⟨_, ps, h1, _⟩ := h; exact ⟨_, h1, trivial, fun _ z => (nomatch z), fun _ _ _ z => (nomatch z)⟩
  | ins c ns ds => obtain ⟨dx, xs, h1, _⟩ := h; exact ⟨_, h1, trivial, fun _ z => (nomatch z), fun _ _ _ z => (nomatch z)⟩
  | lst ds => obtain ⟨xs, h1, h2⟩ := h; exact ⟨_, h1, trivial, fun _ z => (nomatch z), fun _ _ _ z => (nomatch z)⟩
  | dct kvs => obtain ⟨xs, h1, h2⟩ := h; exact ⟨_, h1, trivial, fun _ z => (nomatch z), fun _ _ _ z => (nomatch z)⟩
  | kd kvs => obtain ⟨o, es, ep, xs, h⟩ := h; exact ⟨_, h.at_, trivial, fun _ z => (nomatch z), fun _ _ _ z => (nomatch z)⟩
  | kx kvs => obtain ⟨o, ws, h1, _⟩ := h; exact ⟨_, h1, trivial, fun _ z => (nomatch z), fun z => absurd rfl (z kvs)⟩
theorem RO.ns {a : Addr} {o : O} (h : RO K H ι a o) {u : HO} (hu : H a = some u) : NS a u := by
  cases o with
  | tab q => obtain ⟨_, ps, h1, _⟩ := h; rw [h1] at hu; cases hu; exact ⟨fun _ z => (nomatch z), fun _ _ z => (nomatch z), fun _ z => LamX.codeO_ne _ z.symm, lmu_of fun _ z => nomatch z⟩
  | ins c ns ds => obtain ⟨dx, xs, h1, _⟩ := h; rw [h1] at hu; cases hu; exact ⟨fun _ z => (nomatch z), fun _ _ z => (nomatch z), fun _ => co_ins, lmu_of fun _ z => nomatch z⟩
  | lst ds => obtain ⟨xs, h1, h2⟩ := h; rw [h1] at hu; cases hu; exact ⟨fun _ z => (nomatch z), fun _ _ z => (nomatch z), fun _ => co_lst, lmu_lst⟩
  | dct kvs => obtain ⟨xs, h1, h2⟩ := h; rw [h1] at hu; cases hu; exact ⟨fun _ z => (nomatch z), fun _ _ z => (nomatch z), fun _ => co_dK, lmu_dK⟩
  | kx kvs => obtain ⟨o, ws, h1, _⟩ := h; rw [h1] at hu; cases hu; exact ⟨fun _ z => (nomatch z), fun _ _ z => (nomatch z), fun _ z => (by unfold LamX.CodeO at z; cases z), lmu_of fun _ z => nomatch z⟩
  | kd kvs =>
    obtain ⟨o, es, ep, xs, h⟩ := h
    have h1 := h.at_
    rw [h1] at hu
    cases hu
    exact exa_ns (fun vs z => by rw [h.dt] at z; cases z) (fun z => by rw [h.dt] at z; cases z) (fun _ z => by rw [h.dt] at z; cases z) (fun _ z => by rw [h.dt] at z; cases z)
theorem LmR.mono {v : V} {i : Nat} {cs : List D} {Z Z' : Addr → Prop} (h : LmR K H ι v i cs Z) (s : Stay H H') (p : ∃ l, ι' = ι ++ l) (k' : ∀ a u, Z a → H a = some u → LmU a u → Z' a) : LmR K H' ι' v i cs Z' := by
  have k : ∀ a u, Z a → H a = some u → LmU a u → H' a = some u ∧ Z' a := fun a u z e l => ⟨s.lmu a u e l, k' a u z e l⟩
  obtain ⟨f, c, cl, rfl, h1, h2, h3, h4, h5, h6, h7⟩ := h
  obtain ⟨k1, k2⟩ := k f _ h3 h1 (.inl ⟨_, _, rfl⟩)
  refine ⟨f, c, cl, rfl, k1, s.cod _ _ h2, k2, fun y a e => ?_, h5, h6, fun j y d e1 e2 => ?_⟩
  · obtain ⟨z, o, v, e1, e2⟩ := h4 y a e
    obtain ⟨q1, q2⟩ := k a _ z e1 (.inr ⟨o, v, rfl, e2⟩)
    exact ⟨q2, o, v, q1, e2⟩
  · obtain ⟨a, o, u, v, q1, q2, q3, q4, q5⟩ := h7 j y d e1 e2
    obtain ⟨z, _⟩ := h4 y a q1
    exact ⟨a, o, u, v, q1, (k a _ z q2 (.inr ⟨o, _, rfl, q3⟩)).1, q3, q4, RD.mono s p _ _ q5⟩
/-- no object of the store's kinds is a lambda's or a cell -/
theorem RO.nlm {a : Addr} {o : O} (h : RO K H ι a o) {u : HO} (hu : H a = some u) : ¬ LmU a u := by
  have ne : ∀ w : HO, u = w → (∀ p, w ≠ .ext p) → ¬ LmU a u := fun w e h z => by
    subst e
    rcases z with ⟨F, b, z⟩ | ⟨o, v, z, _⟩
    · exact h _ z
    · exact h _ z
  cases o with
  | lst ds => obtain ⟨xs, h1, _⟩ := h; rw [h1] at hu; exact ne _ (Option.some.inj hu).symm fun _ z => nomatch z
  | dct kvs => obtain ⟨xs, h1, _⟩ := h; rw [h1] at hu; exact ne _ (Option.some.inj hu).symm fun _ z => nomatch z
  | kx kvs => obtain ⟨o, ws, h1, _⟩ := h; rw [h1] at hu; exact ne _ (Option.some.inj hu).symm fun _ z => nomatch z
  | tab n => obtain ⟨_, ps, h1, _⟩ := h; rw [h1] at hu; exact ne _ (Option.some.inj hu).symm fun _ z => nomatch z
  | ins c ns ds => obtain ⟨dx, xs, h1, _⟩ := h; rw [h1] at hu; exact ne _ (Option.some.inj hu).symm fun _ z => nomatch z
  | kd kvs =>
    obtain ⟨o', es, ep, xs, k⟩ := h
    have e1 := k.at_
    rw [e1] at hu
    have hf : o'.data ≠ .freed := fun q => by rw [k.dt] at q; cases q
    rintro (⟨F, b, z⟩ | ⟨o2, v, z, e2⟩)
    · rw [← Option.some.inj hu] at z
      unfold LmO at z
      have hg := at_rep (a := a) hf
      obtain ⟨od, sl, pm, tv, e3⟩ := (congrFun (HO.ext.inj z) { objs := Array.replicate (a + 1) o' }).mp hg
      rw [hg] at e3
      have e4 := k.dt
      rw [Option.some.inj e3] at e4
      cases e4
    · rw [← Option.some.inj hu] at z
      obtain rfl := exa_inj z hf
      rw [k.dt] at e2; cases e2
theorem RDs.length : ∀ {vs : List V} {ds : List D}, RDs K H ι vs ds → vs.length = ds.length
  | _, [], h => by cases h; rfl
  | _, _ :: _, h => by cases h with | cons _ h2 => simp [RDs.length h2]
theorem RDs.get : ∀ {vs : List V} {ds : List D} {i : Nat} {d : D}, RDs K H ι vs ds → ds[i]? = some d → ∃ v, vs[i]? = some v ∧ RD K H ι v d
  | _, [], _, _, h, e => by simp at e
  | _, _ :: _, 0, _, h, e => by cases h with | cons h1 h2 => simp at e; subst e; exact ⟨_, rfl, h1⟩
  | _, _ :: _, i + 1, d, h, e => by
    cases h with | cons h1 h2 =>
      obtain ⟨v, e1, r⟩ := RDs.get h2 (by simpa using e)
      exact ⟨v, by simpa using e1, r⟩
theorem RDs.append : ∀ {vs ws : List V} {ds es : List D}, RDs K H ι vs ds → RDs K H ι ws es → RDs K H ι (vs ++ ws) (ds ++ es)
  | _, _, [], _, h, h' => by cases h; exact h'
  | _, _, _ :: _, _, h, h' => by cases h with | cons h1 h2 => exact .cons h1 (RDs.append h2 h')
theorem RDs.take (n : Nat) : ∀ {vs : List V} {ds : List D}, RDs K H ι vs ds → RDs K H ι (vs.take n) (ds.take n) := by
  induction n with
  | zero => intro vs ds h; simp; exact .nil
  | succ n ih => intro vs ds h; cases h with
    | nil => simp; exact .nil
    | cons h1 h2 => simp; exact .cons h1 (ih h2)
theorem RDs.drop (n : Nat) : ∀ {vs : List V} {ds : List D}, RDs K H ι vs ds → RDs K H ι (vs.drop n) (ds.drop n) := by
  induction n with
  | zero => intro vs ds h; simpa using h
  | succ n ih => intro vs ds h; cases h with
    | nil => simp; exact .nil
    | cons h1 h2 => simp; exact ih h2
theorem RDs.set : ∀ {vs : List V} {ds : List D} {v : V} {d : D} (i : Nat), RDs K H ι vs ds → RD K H ι v d → RDs K H ι (vs.set i v) (ds.set i d)
  | _, _, _, _, _, .nil, _ => .nil
  | _, _, _, _, 0, .cons h1 h2, r => .cons r h2
  | _, _, _, _, i + 1, .cons h1 h2, r => .cons h1 (RDs.set i h2 r)
theorem RDs.reverse : ∀ {vs : List V} {ds : List D}, RDs K H ι vs ds → RDs K H ι vs.reverse ds.reverse
  | _, _, .nil => .nil
  | _, _, .cons h1 h2 => by rw [List.reverse_cons, List.reverse_cons]; exact (RDs.reverse h2).append (.cons h1 .nil)
end
theorem Post.back {H H' : Hp} {ι ι' : List Addr} {σ σ' : SV} {e e' : En} (P : Post H ι σ e H' ι' σ' e') {a : Addr} (h : H' a = none) : H a = none := by
  cases q : H a with
  | none => rfl
  | some o => obtain ⟨o', q'⟩ := P.dom a o q; rw [h] at q'; cases q'
end G

set_option Elab.async false
set_option linter.all false
set_option maxRecDepth 1000000
set_option maxHeartbeats 2000000
/-! G1: judgements by functions; expressions. -/
namespace G
variable [Wld]
open PySem PySem.Spec PyProof.Rows L2

def RR (K : PySem.W.Frag) (H : Hp) (ι : List Addr) (σ : SV) (e : En) (v : V) : R → Prop
  | .d x => RD K H ι v x
  | .new o => ∃ a, v = .ref a ∧ RO K H ι a o ∧ a ∉ ι ∧ ¬ Obj σ e a
  | .brw o => ∃ a, v = .ref a ∧ RO K H ι a o ∧ a ∉ ι ∧ ¬ Own σ e a
  | .loc i => σ[i]? = some (some v)
  | .lm i cs => LmR K H ι v i cs fun a => a ∉ ι ∧ ¬ Own σ e a
def Fresh (H : Hp) (v : V) : R → Prop
  | .new _ => ∃ a, v = .ref a ∧ H a = none
  | _ => True
section
variable {K : PySem.W.Frag} {H H' : Hp} {ι ι' : List Addr} {σ σ' : SV} {e e' : En} {S S' : Sto} {v : V} {r : R}
theorem RR.post (h : RR K H ι σ e v r) (P : Post H ι σ e H' ι' σ e') : RR K H' ι' σ e' v r := by
  cases r with
  | d x => exact RD.mono P.stay P.pre _ _ h
  | new o =>
    obtain ⟨a, rfl, ro, h1, h2⟩ := h
    obtain ⟨u, hu, _⟩ := ro.there
    have h3 : ¬ Own σ e a := fun z => h2 (.of z)
    obtain ⟨_, k1, _, k2⟩ := P.keep a u hu h1 h3
    exact ⟨a, rfl, ro.mono P.stay P.pre fun u' hu' => (P.keep a u' hu' h1 h3).1, k1, k2 h2⟩
  | brw o =>
    obtain ⟨a, rfl, ro, h1, h2⟩ := h
    obtain ⟨u, hu, _⟩ := ro.there
    obtain ⟨_, k1, k2, _⟩ := P.keep a u hu h1 h2
    exact ⟨a, rfl, ro.mono P.stay P.pre fun u' hu' => (P.keep a u' hu' h1 h2).1, k1, k2⟩
  | loc i => exact h
  | lm i cs => exact LmR.mono h P.stay P.pre fun a u ⟨z1, z2⟩ e l => let ⟨_, k1, k2, _⟩ := P.keep a u e z1 z2; ⟨k1, k2⟩
theorem Fresh.back (h : Fresh H' v r) (P : Post H ι σ e H' ι' σ' e') : Fresh H v r := by
  cases r with
  | new o => obtain ⟨a, rfl, h1⟩ := h; exact ⟨a, rfl, P.back h1⟩
  | _ => trivial
end
/-- the reading by a function -/
def tG (K : PySem.W.Frag) (m : M R) : TE := fun σ H Q => ∃ ι e S r e' S', Rel K H ι σ e S ∧ m e S = some (r, e', S') ∧
  ∀ v H' ι', Rel K H' ι' σ e' S' → Post H ι σ e H' ι' σ e' → RR K H' ι' σ e' v r → Fresh H v r → Q v H'
def tGT (K : PySem.W.Frag) (m : M Bool) : TT := fun σ H Q => ∃ ι e S r e' S', Rel K H ι σ e S ∧ m e S = some (r, e', S') ∧
  ∀ H' ι', Rel K H' ι' σ e' S' → Post H ι σ e H' ι' σ e' → Q r H'
inductive RRs (K : PySem.W.Frag) (H : Hp) (ι : List Addr) (σ : SV) (e : En) : List V → List R → Prop
  | nil : RRs K H ι σ e [] []
  | cons {v vs r rs} : RR K H ι σ e v r → RRs K H ι σ e vs rs → RRs K H ι σ e (v :: vs) (r :: rs)
def tGA (K : PySem.W.Frag) (m : M (List R)) : TA := fun σ H Q => ∃ ι e S r e' S', Rel K H ι σ e S ∧ m e S = some (r, e', S') ∧
  ∀ vs H' ι', Rel K H' ι' σ e' S' → Post H ι σ e H' ι' σ e' → RRs K H' ι' σ e' vs r → Q vs H'
theorem RRs.post {K : PySem.W.Frag} {H H' : Hp} {ι ι' : List Addr} {σ : SV} {e e' : En} {vs : List V} {rs : List R} (h : RRs K H ι σ e vs rs) (P : Post H ι σ e H' ι' σ e') : RRs K H' ι' σ e' vs rs := by
  induction h with
  | nil => exact .nil
  | cons h1 _ ih => exact .cons (h1.post P) ih

def bnd {α β : Type} (m : M α) (f : α → M β) : M β := fun e S => match m e S with
  | some (a, e', S') => f a e' S'
  | none => none
def pur {α : Type} (a : α) : M α := fun e S => some (a, e, S)
def stk {α : Type} : M α := fun _ _ => none
theorem bnd_eq {α β : Type} {m : M α} {f : α → M β} {e : En} {S : Sto} {z : β × En × Sto} (h : bnd m f e S = some z) : ∃ a e1 S1, m e S = some (a, e1, S1) ∧ f a e1 S1 = some z := by
  unfold bnd at h
  split at h
  · exact ⟨_, _, _, by assumption, h⟩
  · cases h
theorem PE.imp {X : Cx} {ex : Expr} {t t' : TE} (h : PE X ex t) (w : ∀ σ H Q, t' σ H Q → t σ H Q) : PE X ex t' := ⟨fun pins s σ H Q I q => h.run pins s σ H Q I (w σ H Q q)⟩
theorem PT.imp {X : Cx} {ex : Expr} {t t' : TT} (h : PT X ex t) (w : ∀ σ H Q, t' σ H Q → t σ H Q) : PT X ex t' := ⟨fun pins s σ H Q I q => h.run pins s σ H Q I (w σ H Q q)⟩
theorem PA.imp {X : Cx} {es : List Expr} {t t' : TA} (h : PA X es t) (w : ∀ σ H Q, t' σ H Q → t σ H Q) : PA X es t' := ⟨fun pos pins s σ H Q I q => h.run pos pins s σ H Q I (w σ H Q q)⟩
theorem PS.imp {X : Cx} {st : Stmt} {t t' : TS} (h : PS X st t) (w : ∀ D σ H, t' D σ H → t D σ H) : PS X st t' := ⟨fun pins s σ H D I q => h.run pins s σ H D I (w D σ H q)⟩
theorem PSs.imp {X : Cx} {st : List Stmt} {t t' : TS} (h : PSs X st t) (w : ∀ D σ H, t' D σ H → t D σ H) : PSs X st t' := ⟨fun pins s σ H D I q => h.run pins s σ H D I (w D σ H q)⟩
abbrev GE (X : Cx) (ex : Expr) (m : M R) : Prop := PE X ex (tG X.K m)
abbrev GT (X : Cx) (ex : Expr) (m : M Bool) : Prop := PT X ex (tGT X.K m)
abbrev GA (X : Cx) (es : List Expr) (m : M (List R)) : Prop := PA X es (tGA X.K m)

/-! ### names, constants -/
/-- no lambda, no captured cell is one of the store or of a slot -/
theorem Rel.away {K : PySem.W.Frag} {H : Hp} {ι : List Addr} {σ : SV} {e : En} {S : Sto} (R : Rel K H ι σ e S) {a : Addr} {u : HO} (h : H a = some u) (l : LmU a u) : a ∉ ι ∧ ¬ Own σ e a := by
  refine ⟨fun z => ?_, fun ⟨i, o, h1, h2⟩ => ?_⟩
  · obtain ⟨n, hn⟩ := List.getElem?_of_mem z
    have hlt := (List.getElem?_eq_some_iff.mp hn).1
    rw [R.ilen] at hlt
    exact (R.st n _ a (List.getElem?_eq_getElem hlt) hn).nlm h l
  · obtain ⟨v, hv, b, rfl, ro⟩ := R.sl i _ h1
    rw [h2] at hv
    cases hv
    exact ro.nlm h l
def mVar (i : Nat) : M R := fun e S => match e[i]? with
  | some (some (.d x)) => some (.d x, e, S)
  | some (some (.own _)) => some (.loc i, e, S)
  | some (some (.brw o)) => some (.brw o, e, S)
  | some (some (.lm i cs)) => some (.lm i cs, e, S)
  | _ => none
def mC (x : D) : M R := pur (.d x)
section
variable {X : Cx} {pos : Pos}
theorem ge_c {ex : Expr} {v : V} {x : D} (h : PE X ex (tC v)) (r : ∀ H ι, RD X.K H ι v x) : GE X ex (mC x) := PE.imp h fun σ H Q q => by
  obtain ⟨ι, e, S, r', e', S', R, hm, q⟩ := q
  cases hm
  exact q v H ι R .refl (r H ι) trivial
theorem ge_int {i : Int} {j} : GE X (.Constant (.int i) j pos) (mC (.int i)) := ge_c pe_int fun _ _ => .int i
theorem ge_bl {i : Bool} {j} : GE X (.Constant (.bool i) j pos) (mC (.bl i)) := ge_c pe_bl fun _ _ => .bl i
theorem ge_non {j} : GE X (.Constant .none j pos) (mC .non) := ge_c pe_non fun _ _ => .non
theorem ge_str {x : Str} {j} : GE X (.Constant (.str x) j pos) (mC (.str x)) := ge_c pe_str fun _ _ => .str x
/-- a constant of the module -/
theorem ge_glob {x : Str} {v : V} {d : D} {u : Value} (hg : Gl X x) (hm : X.mg x = some u) (r : RelV v u) (rd : ∀ H ι, RD X.K H ι v d) (hd : (x == ("__debug__" : Str)) = false := by decide) : GE X (.Name x pos) (mC d) := ge_c (pe_glob hg hm r hd) rd
theorem ge_var (i : Nat) {x : Str} (hN : X.N[i]? = some x := by rfl) (hv : Vis X.env.scope x := by first | exact Or.inl rfl | exact Or.inr (Or.inl rfl) | exact Or.inr (Or.inr rfl)) (hd : (x == ("__debug__" : Str)) = false := by decide)
    (hcd : (x == ("__classdict__" : Str)) = false := by decide) : GE X (.Name x pos) (mVar i) := PE.imp (pe_var hN hv hd hcd) fun σ H Q q => by
  obtain ⟨ι, e, S, r', e', S', R, hm, q⟩ := q
  unfold mVar at hm
  split at hm <;> cases hm
  · rename_i x he
    obtain ⟨v, hv, hr⟩ := R.sl i _ he
    exact ⟨v, hv, q v H ι R .refl hr trivial⟩
  · rename_i o he
    obtain ⟨v, hv, hr⟩ := R.sl i _ he
    exact ⟨v, hv, q v H ι R .refl hv trivial⟩
  · rename_i o he
    obtain ⟨v, hv, a, rfl, ro⟩ := R.sl i _ he
    have h1 := R.brw i o a he hv
    refine ⟨_, hv, q _ H ι R .refl ⟨a, rfl, ro, h1, ?_⟩ trivial⟩
    rintro ⟨j, o', hj, hσ⟩
    have hne : i ≠ j := fun z => by subst z; rw [he] at hj; cases hj
    exact (R.own j o' a hj hσ).2 i _ a hne he trivial hv rfl
  · rename_i k cs he
    obtain ⟨v, hv, hr⟩ := R.sl i _ he
    exact ⟨v, hv, q v H ι R .refl (LmR.mono hr (.refl _) ⟨[], by simp⟩ fun a u _ e l => R.away e l) trivial⟩
end

/-! ### two places -/
def tO2 (K : PySem.W.Frag) (g : R → R → M R) : R2 := fun x y H Q => ∃ ι σ e S rx ry r e' S', Rel K H ι σ e S ∧ RR K H ι σ e x rx ∧ RR K H ι σ e y ry ∧ g rx ry e S = some (r, e', S') ∧
  ∀ v H' ι', Rel K H' ι' σ e' S' → Post H ι σ e H' ι' σ e' → RR K H' ι' σ e' v r → Fresh H v r → Q v H'
def tO1 (K : PySem.W.Frag) (g : R → M R) : V → Hp → VK → Prop := fun x H Q => ∃ ι σ e S rx r e' S', Rel K H ι σ e S ∧ RR K H ι σ e x rx ∧ g rx e S = some (r, e', S') ∧
  ∀ v H' ι', Rel K H' ι' σ e' S' → Post H ι σ e H' ι' σ e' → RR K H' ι' σ e' v r → Fresh H v r → Q v H'
def tOA (K : PySem.W.Frag) (g : List R → M R) : List V → Hp → VK → Prop := fun xs H Q => ∃ ι σ e S rs r e' S', Rel K H ι σ e S ∧ RRs K H ι σ e xs rs ∧ g rs e S = some (r, e', S') ∧
  ∀ v H' ι', Rel K H' ι' σ e' S' → Post H ι σ e H' ι' σ e' → RR K H' ι' σ e' v r → Fresh H v r → Q v H'
theorem OpR.imp {X : Cx} {f : Value → Value → Sem Value} {r r' : R2} (h : OpR X f r) (w : ∀ x y H Q, r' x y H Q → r x y H Q) : OpR X f r' := fun pins s σ H x y v u Q I rx ry q => h pins s σ H x y v u Q I rx ry (w _ _ _ _ q)
theorem UnR.imp {X : Cx} {f : Value → Sem Value} {r r' : V → Hp → VK → Prop} (h : UnR X f r) (w : ∀ x H Q, r' x H Q → r x H Q) : UnR X f r' := fun pins s σ H x v Q I rx q => h pins s σ H x v Q I rx (w _ _ _ q)
theorem CallR.imp {X : Cx} {f : Value} {r r' : List V → Hp → VK → Prop} (h : CallR X f r) (w : ∀ x H Q, r' x H Q → r x H Q) : CallR X f r' := fun pins s σ H x v Q I rx q => h pins s σ H x v Q I rx (w _ _ _ q)
def mBin (g : R → R → M R) (ma mb : M R) : M R := bnd ma fun x => bnd mb fun y => g x y
def mUn (g : R → M R) (ma : M R) : M R := bnd ma g
theorem tG_bin {K : PySem.W.Frag} {g : R → R → M R} {ma mb : M R} {σ : SV} {H : Hp} {Q : VK} (h : tG K (mBin g ma mb) σ H Q) : tOp (tO2 K g) (tG K ma) (tG K mb) σ H Q := by
  obtain ⟨ι, e, S, r, e', S', R, hm, q⟩ := h
  obtain ⟨x, e1, S1, h1, hm⟩ := bnd_eq hm
  obtain ⟨y, e2, S2, h2, hm⟩ := bnd_eq hm
  exact ⟨ι, e, S, x, e1, S1, R, h1, fun v H1 ι1 R1 P1 r1 _ => ⟨ι1, e1, S1, y, e2, S2, R1, h2, fun w H2 ι2 R2 P2 r2 _ =>
    ⟨ι2, σ, e2, S2, x, y, r, e', S', R2, r1.post P2, r2, hm, fun v H3 ι3 R3 P3 r3 f3 => q v H3 ι3 R3 ((P1.trans P2).trans P3) r3 (f3.back (P1.trans P2))⟩⟩⟩
section
variable {X : Cx} {pos : Pos} {a b : Expr} {ma mb : M R}
theorem ge_op {op : Operator} {g : R → R → M R} (ho : OpR X (binaryOp op) (tO2 X.K g)) (ha : GE X a ma) (hb : GE X b mb) : GE X (.BinOp a op b pos) (mBin g ma mb) := PE.imp (pe_op ho ha hb) fun σ H Q q => tG_bin q
theorem ge_cmp {op : CmpOp} {g : R → R → M R} (ho : OpR X (compareOp op) (tO2 X.K g)) (ha : GE X a ma) (hb : GE X b mb) (hm : behindInMarks op b = false := by first | exact nomark _ | rfl) : GE X (.Compare a [op] [b] pos) (mBin g ma mb) :=
  PE.imp (pe_cmpR ho ha hb hm) fun σ H Q q => tG_bin q
def asB (r : R) : M Bool := match r with
  | .d (.bl b) => pur b
  | _ => stk
theorem tG_test {K : PySem.W.Frag} {m : M R} {σ : SV} {H : Hp} {Q : Bool → Hp → Prop} (h : tGT K (bnd m asB) σ H Q) : tG K m σ H fun x H' => ∃ k, x = .bl k ∧ Q k H' := by
  obtain ⟨ι, e, S, r, e', S', R, hm, q⟩ := h
  obtain ⟨x, e1, S1, h1, hm⟩ := bnd_eq hm
  refine ⟨ι, e, S, x, e1, S1, R, h1, fun v H1 ι1 R1 P1 r1 _ => ?_⟩
  unfold asB at hm
  split at hm
  · cases hm
    cases r1
    exact ⟨_, rfl, q H1 ι1 R1 P1⟩
  · cases hm
theorem gt_cmp {op : CmpOp} {g : R → R → M R} (ho : OpR X (compareOp op) (tO2 X.K g)) (ha : GE X a ma) (hb : GE X b mb) (hm : behindInMarks op b = false := by first | exact nomark _ | rfl) : GT X (.Compare a [op] [b] pos) (bnd (mBin g ma mb) asB) :=
  PT.imp (pt_cmpR ho ha hb hm) fun σ H Q q => by
    have h := tG_test q
    exact tG_bin h
theorem gt_val {ex : Expr} {m : M R} (h : GE X ex m) (he : ∀ whole, isTrue ex X.env whole = (do let v ← whole; standAt ex.pos; holding [v] (truthy v)) := by intro _; rfl) : GT X ex (bnd m asB) :=
  PT.imp (pt_val h he) fun σ H Q q => tG_test q
theorem ge_un {op : UnaryOp} {g : R → M R} (ho : UnR X (unaryOp op) (tO1 X.K g)) (ha : GE X a ma) : GE X (.UnaryOp op a pos) (mUn g ma) := PE.imp (pe_un ho ha) fun σ H Q q => by
  obtain ⟨ι, e, S, r, e', S', R, hm, q⟩ := q
  obtain ⟨x, e1, S1, h1, hm⟩ := bnd_eq hm
  exact ⟨ι, e, S, x, e1, S1, R, h1, fun v H1 ι1 R1 P1 r1 _ => ⟨ι1, σ, e1, S1, x, r, e', S', R1, r1, hm, fun v H3 ι3 R3 P3 r3 f3 => q v H3 ι3 R3 (P1.trans P3) r3 (f3.back P1)⟩⟩
/-! ### and, or, not, if -/
def mIf {α : Type} (c : M Bool) (a b : M α) : M α := bnd c fun x => if x = true then a else b
def mNot (c : M Bool) : M Bool := bnd c fun x => pur (!x)
def mAnd (c d : M Bool) : M Bool := bnd c fun x => if x = true then d else pur false
def mOr (c d : M Bool) : M Bool := bnd c fun x => if x = true then pur true else d
def mB (c : M Bool) : M R := bnd c fun x => pur (.d (.bl x))
variable {c d : Expr} {mc md : M Bool} {rest : List Expr}
theorem gt_not (h : GT X c mc) : GT X (.UnaryOp .Not c pos) (mNot mc) := PT.imp (pt_not h) fun σ H Q q => by
  obtain ⟨ι, e, S, r, e', S', R, hm, q⟩ := q
  obtain ⟨x, e1, S1, h1, hm⟩ := bnd_eq hm
  cases hm
  exact ⟨ι, e, S, x, _, _, R, h1, q⟩
theorem tGT_bnd {K : PySem.W.Frag} {m : M Bool} {f : Bool → M Bool} {σ : SV} {H : Hp} {Q : Bool → Hp → Prop} (h : tGT K (bnd m f) σ H Q) : tGT K m σ H fun b H1 => tGT K (f b) σ H1 Q := by
  obtain ⟨ι, e, S, r, e', S', R, hm, q⟩ := h
  obtain ⟨x, e1, S1, h1, hm⟩ := bnd_eq hm
  exact ⟨ι, e, S, x, e1, S1, R, h1, fun H1 ι1 R1 P1 => ⟨ι1, e1, S1, r, e', S', R1, hm, fun H2 ι2 R2 P2 => q H2 ι2 R2 (P1.trans P2)⟩⟩
theorem tGT_pur {K : PySem.W.Frag} {b : Bool} {σ : SV} {H : Hp} {Q : Bool → Hp → Prop} (h : tGT K (pur b) σ H Q) : Q b H := by
  obtain ⟨ι, e, S, r, e', S', R, hm, q⟩ := h
  cases hm
  exact q H ι R .refl
theorem tGT_mono {K : PySem.W.Frag} {m : M Bool} {σ : SV} {H : Hp} {Q Q' : Bool → Hp → Prop} (h : tGT K m σ H Q) (w : ∀ b H, Q b H → Q' b H) : tGT K m σ H Q' := by
  obtain ⟨ι, e, S, r, e', S', R, hm, q⟩ := h
  exact ⟨ι, e, S, r, e', S', R, hm, fun H2 ι2 R2 P2 => w _ _ (q H2 ι2 R2 P2)⟩
theorem tG_bndT {K : PySem.W.Frag} {m : M Bool} {f : Bool → M R} {σ : SV} {H : Hp} {Q : VK} (h : tG K (bnd m f) σ H Q) : tGT K m σ H fun b H1 => tG K (f b) σ H1 Q := by
  obtain ⟨ι, e, S, r, e', S', R, hm, q⟩ := h
  obtain ⟨x, e1, S1, h1, hm⟩ := bnd_eq hm
  exact ⟨ι, e, S, x, e1, S1, R, h1, fun H1 ι1 R1 P1 => ⟨ι1, e1, S1, r, e', S', R1, hm, fun v H2 ι2 R2 P2 r2 f2 => q v H2 ι2 R2 (P1.trans P2) r2 (f2.back P1)⟩⟩
theorem tG_pur {K : PySem.W.Frag} {b : Bool} {σ : SV} {H : Hp} {Q : VK} (h : tG K (pur (.d (.bl b))) σ H Q) : Q (.bl b) H := by
  obtain ⟨ι, e, S, r, e', S', R, hm, q⟩ := h
  cases hm
  exact q _ H ι R .refl (.bl b) trivial
structure GW (X : Cx) (ex : Expr) (m : M Bool) : Prop where
  h : PW X ex (tGT X.K m)
theorem GW.gt {X : Cx} {ex : Expr} {m : M Bool} (g : GW X ex m) : GT X ex m := g.h.pt
theorem PW.imp {X : Cx} {ex : Expr} {t t' : TT} (h : PW X ex t) (w : ∀ σ H Q, t' σ H Q → t σ H Q) : PW X ex t' := ⟨fun wh pins s σ H Q I q => h.run wh pins s σ H Q I (w σ H Q q)⟩
theorem gw_and1 (h : GT X c mc) : GW X (.BoolOp .And [c] pos) mc := ⟨pw_and1 h⟩
theorem gw_or1 (h : GT X c mc) : GW X (.BoolOp .Or [c] pos) mc := ⟨pw_or1 h⟩
theorem gw_and (h : GT X c mc) (h2 : GW X (.BoolOp .And (d :: rest) pos) md) : GW X (.BoolOp .And (c :: d :: rest) pos) (mAnd mc md) := ⟨PW.imp (pw_and h h2.h) fun σ H Q q => tGT_mono (tGT_bnd q) fun b H1 q1 => by
  cases b with
  | true => exact q1
  | false => exact tGT_pur q1⟩
theorem gw_or (h : GT X c mc) (h2 : GW X (.BoolOp .Or (d :: rest) pos) md) : GW X (.BoolOp .Or (c :: d :: rest) pos) (mOr mc md) := ⟨PW.imp (pw_or h h2.h) fun σ H Q q => tGT_mono (tGT_bnd q) fun b H1 q1 => by
  cases b with
  | true => exact tGT_pur q1
  | false => exact q1⟩
theorem ge_ifExp {m1 m2 : M R} {p q : Expr} (hc : GT X c mc) (ha : GE X p m1) (hb : GE X q m2) : GE X (.IfExp c p q pos) (mIf mc m1 m2) := PE.imp (pe_ifExp hc ha hb) fun σ H Q q => tGT_mono (tG_bndT q) fun b H1 q1 => by
  cases b with
  | true => exact q1
  | false => exact q1
/-- .. as values: bools -/
def mAndV (a b : M R) : M R := bnd (bnd a asB) fun x => if x = true then b else pur (.d (.bl false))
def mOrV (a b : M R) : M R := bnd (bnd a asB) fun x => if x = true then pur (.d (.bl true)) else b
def mNotV (a : M R) : M R := bnd (bnd a asB) fun x => pur (.d (.bl (!x)))
theorem ge_one {op} (h : GE X a ma) : GE X (.BoolOp op [a] pos) ma := pe_one h
theorem ge_and {m2 : M R} (ha : GE X a ma) (hb : GE X (.BoolOp .And (b :: rest) pos) m2) : GE X (.BoolOp .And (a :: b :: rest) pos) (mAndV ma m2) := PE.imp (pe_and ha hb) fun σ H Q q => by
  have h := tG_test (tG_bndT q)
  obtain ⟨ι, e, S, r, e', S', R, hm, q⟩ := h
  refine ⟨ι, e, S, r, e', S', R, hm, fun v H' ι' R' P' r' f' => ?_⟩
  obtain ⟨k, rfl, q⟩ := q v H' ι' R' P' r' f'
  refine ⟨k, rfl, ?_⟩
  cases k with
  | true => exact q
  | false => exact tG_pur q
theorem ge_or {m2 : M R} (ha : GE X a ma) (hb : GE X (.BoolOp .Or (b :: rest) pos) m2) : GE X (.BoolOp .Or (a :: b :: rest) pos) (mOrV ma m2) := PE.imp (pe_or ha hb) fun σ H Q q => by
  have h := tG_test (tG_bndT q)
  obtain ⟨ι, e, S, r, e', S', R, hm, q⟩ := h
  refine ⟨ι, e, S, r, e', S', R, hm, fun v H' ι' R' P' r' f' => ?_⟩
  obtain ⟨k, rfl, q⟩ := q v H' ι' R' P' r' f'
  refine ⟨k, rfl, ?_⟩
  cases k with
  | true => exact tG_pur q
  | false => exact q
theorem ge_not (ha : GE X a ma) : GE X (.UnaryOp .Not a pos) (mNotV ma) := PE.imp (pe_not ha) fun σ H Q q => by
  have h := tG_test (tG_bndT q)
  obtain ⟨ι, e, S, r, e', S', R, hm, q⟩ := h
  refine ⟨ι, e, S, r, e', S', R, hm, fun v H' ι' R' P' r' f' => ?_⟩
  obtain ⟨k, rfl, q⟩ := q v H' ι' R' P' r' f'
  exact ⟨k, rfl, tG_pur q⟩
end
end G

set_option Elab.async false
set_option linter.all false
set_option maxRecDepth 1000000
set_option maxHeartbeats 2000000
/-! G2: objects read, written, locked, boxed; argument lists, displays; calls of own defs. -/
namespace G
variable [Wld]
open PySem PySem.Spec PyProof.Rows L2

def look (r : R) (e : En) (S : Sto) : Option O := match r with
  | .d (.ref n) => S[n]?
  | .d (.lst ds) => some (.lst ds)
  | .d (.dic ks ds) => some (.dct (ks.zip ds))
  | .new o => some o
  | .brw o => some o
  | .loc i => match e[i]? with
    | some (some (.own o)) => some o
    | _ => none
  | _ => none
def putE (r : R) (o : O) (e : En) : En := match r with
  | .loc i => e.set i (some (.own o))
  | _ => e
def putS (r : R) (o : O) (S : Sto) : Sto := match r with
  | .d (.ref n) => S.set n o
  | _ => S
/-- what may be written -/
def isW : R → Bool
  | .d (.ref _) => true
  | .loc _ => true
  | _ => false
section
variable {K : PySem.W.Frag} {H H' : Hp} {ι ι' : List Addr} {σ σ' : SV} {e e' : En} {S S' : Sto} {v : V} {r : R} {o : O}
theorem RDs.zipK : ∀ (ks : List Key) {xs : List V} {ds : List D}, RDs K H ι xs ds → RK K H ι (ks.zip xs) (ks.zip ds)
  | [], _, _, _ => .nil
  | _ :: _, _, _, .nil => .nil
  | k :: ks, _, _, .cons h1 h2 => .cons ⟨rfl, h1⟩ (RDs.zipK ks h2)
theorem nodup_at {α : Type} {l : List α} (h : l.Nodup) {i j : Nat} {a : α} (e1 : l[i]? = some a) (e2 : l[j]? = some a) : i = j := by
  obtain ⟨h1, q1⟩ := List.getElem?_eq_some_iff.mp e1
  obtain ⟨h2, q2⟩ := List.getElem?_eq_some_iff.mp e2
  exact (List.getElem_inj h).mp (q1.trans q2.symm)
/-- what is looked at -/
theorem Rel.look (R : Rel K H ι σ e S) (hr : RR K H ι σ e v r) (hl : look r e S = some o) :
    ∃ a, v = .ref a ∧ (RO K H ι a o ∨ (∃ xs ds, LF K H a xs ∧ o = .lst ds ∧ RDs K H ι xs ds) ∨ ∃ ob ws kvs, H a = some (.frz ob (.dK ws)) ∧ o = .dct kvs ∧ RK K H ι ws kvs) := by
  unfold G.look at hl
  split at hl
  · rename_i n
    cases hr with | ref h1 => exact ⟨_, rfl, .inl (R.st _ _ _ hl h1)⟩
  · cases hl
    cases hr with | lst h1 h2 => exact ⟨_, rfl, .inr (.inl ⟨_, _, h1, rfl, h2⟩)⟩
  · cases hl
    cases hr with | dic h1 h2 h3 => exact ⟨_, rfl, .inr (.inr ⟨_, _, _, h1, rfl, RDs.zipK _ h3⟩)⟩
  · cases hl
    obtain ⟨a, rfl, ro, _⟩ := hr
    exact ⟨a, rfl, .inl ro⟩
  · cases hl
    obtain ⟨a, rfl, ro, _⟩ := hr
    exact ⟨a, rfl, .inl ro⟩
  · split at hl
    · cases hl
      rename_i i _ he
      obtain ⟨w, hw, a, rfl, ro⟩ := R.sl _ _ he
      have hr' : σ[i]? = some (some v) := hr
      rw [hr'] at hw
      cases hw
      exact ⟨a, rfl, .inl ro⟩
    · cases hl
  · cases hl
theorem Rel.lookL {ds : List D} (R : Rel K H ι σ e S) (hr : RR K H ι σ e v r) (hl : G.look r e S = some (.lst ds)) : ∃ a xs, v = .ref a ∧ SqL K H a xs ∧ RDs K H ι xs ds := by
  obtain ⟨a, rfl, h | ⟨xs, ds', h, e1, rd⟩ | ⟨ob, ws, kvs, h, e1, rk⟩⟩ := R.look hr hl
  · obtain ⟨xs, h1, h2⟩ := h
    exact ⟨a, xs, rfl, .inl (.inl h1), h2⟩
  · cases e1
    exact ⟨a, xs, rfl, h.sq, rd⟩
  · cases e1
theorem Rel.lookD {kvs : List (Key × D)} (R : Rel K H ι σ e S) (hr : RR K H ι σ e v r) (hl : G.look r e S = some (.dct kvs)) : ∃ a ws, v = .ref a ∧ Rd H a (.dK ws) ∧ RK K H ι ws kvs := by
  obtain ⟨a, rfl, h | ⟨xs, ds', h, e1, rd⟩ | ⟨ob, ws, kvs, h, e1, rk⟩⟩ := R.look hr hl
  · obtain ⟨xs, h1, h2⟩ := h
    exact ⟨a, xs, rfl, .inl h1, h2⟩
  · cases e1
  · cases e1
    exact ⟨a, ws, rfl, .inr ⟨ob, h⟩, rk⟩
/-- a slot's object stands elsewhere than one of the store -/
theorem Rel.slot_ne (R : Rel K H ι σ e S) {i : Nat} {s : Sl} {b : Addr} (he : e[i]? = some (some s)) (hs : s.isObj) (hσ : σ[i]? = some (some (.ref b))) : b ∉ ι := by
  cases s with
  | d x => exact hs.elim
  | own o => exact (R.own i o b he hσ).1
  | brw o => exact R.brw i o b he hσ
  | lm i cs => exact hs.elim
theorem RSl.there (h : RSl K H ι v s) (hs : s.isObj) : ∃ a o u, v = .ref a ∧ RO K H ι a o ∧ H a = some u ∧ (s = .own o ∨ s = .brw o) := by
  cases s with
  | d x => exact hs.elim
  | own o =>
    obtain ⟨a, rfl, ro⟩ := h
    obtain ⟨u, hu, _⟩ := ro.there
    exact ⟨a, o, u, rfl, ro, hu, .inl rfl⟩
  | brw o =>
    obtain ⟨a, rfl, ro⟩ := h
    obtain ⟨u, hu, _⟩ := ro.there
    exact ⟨a, o, u, rfl, ro, hu, .inr rfl⟩
  | lm i cs => exact hs.elim
theorem RSl.mono (s' : Stay H H') (p : ∃ l, ι' = ι ++ l) {s : Sl} (k : ∀ a u, v = .ref a → s.isObj → H a = some u → H' a = some u) (h : RSl K H ι v s) : RSl K H' ι' v s := by
  cases s with
  | d x => exact RD.mono s' p _ _ h
  | own o => obtain ⟨a, rfl, ro⟩ := h; exact ⟨a, rfl, ro.mono s' p fun u hu => k a u rfl trivial hu⟩
  | brw o => obtain ⟨a, rfl, ro⟩ := h; exact ⟨a, rfl, ro.mono s' p fun u hu => k a u rfl trivial hu⟩
  | lm i cs => exact LmR.mono h s' p fun _ _ _ _ _ => trivial
/-- an object that is neither the store's nor a slot's changes its kind, or what stands at a new place -/
theorem Rel.other (R : Rel K H ι σ e S) {a : Addr} {u : HO} (st : Stay H (upd H a u)) (hι : a ∉ ι) (ho : ¬ Obj σ e a) : Rel K (upd H a u) ι σ e S where
  len := R.len
  sl := fun i s he => by
    obtain ⟨w, hw, hs⟩ := R.sl i s he
    refine ⟨w, hw, hs.mono st ⟨[], by simp⟩ fun b x hb hob hx => ?_⟩
    subst hb
    rw [upd_ne (fun (z : b = a) => ho ⟨i, s, he, hob, z ▸ hw⟩)]
    exact hx
  ilen := R.ilen
  st := fun n o b h1 h2 => (R.st n o b h1 h2).mono st ⟨[], by simp⟩ fun x hx => by
    rw [upd_ne (fun (z : b = a) => hι (z ▸ List.mem_of_getElem? h2))]
    exact hx
  nd := R.nd
  own := R.own
  brw := R.brw
/-- a new object -/
theorem Rel.new (R : Rel K H ι σ e S) {a : Addr} {u : HO} (hn : H a = none) : Rel K (upd H a u) ι σ e S ∧ Post H ι σ e (upd H a u) ι σ e ∧ a ∉ ι ∧ ¬ Obj σ e a := by
  have hι : a ∉ ι := fun z => by
    obtain ⟨n, hn'⟩ := List.getElem?_of_mem z
    have hlt := (List.getElem?_eq_some_iff.mp hn').1
    rw [R.ilen] at hlt
    obtain ⟨u, hu, _⟩ := (R.st n _ a (List.getElem?_eq_getElem hlt) hn').there
    rw [hn] at hu; cases hu
  have ho : ¬ Obj σ e a := fun ⟨i, s, h1, h2, h3⟩ => by
    obtain ⟨w, hw, hs⟩ := R.sl i s h1
    rw [h3] at hw; cases hw
    obtain ⟨b, _, u, e1, _, hu, _⟩ := RSl.there hs h2
    cases e1
    rw [hn] at hu; cases hu
  have st : Stay H (upd H a u) := Stay.new hn
  refine ⟨R.other st hι ho, ⟨⟨[], by simp⟩, st, fun b x h => ?_, fun b x h1 h2 h3 => ?_⟩, hι, ho⟩
  · exact ⟨x, by rw [upd_ne (ne_of_none h hn)]; exact h⟩
  · exact ⟨by rw [upd_ne (ne_of_none h1 hn)]; exact h1, h2, h3, fun h => h⟩
/-- what was made since H0 changes -/
theorem Post.fresh {H0 : Hp} {ι0 : List Addr} {σ0 : SV} {e0 : En} (P : Post H0 ι0 σ0 e0 H ι σ e) {a : Addr} {u : HO} (f : H0 a = none) (st : Stay H (upd H a u)) : Post H0 ι0 σ0 e0 (upd H a u) ι σ e := by
  refine ⟨P.pre, P.stay.trans st, fun b x h => ?_, fun b x h1 h2 h3 => ?_⟩
  · rw [upd_ne (ne_of_none h f)]
    exact P.dom b x h
  · rw [upd_ne (ne_of_none h1 f)]
    exact P.keep b x h1 h2 h3
theorem RO.stay {a : Addr} (ro : RO K H ι a o) (u : HO) (n : ¬ LmU a u) (nk : ∀ kvs, o ≠ .kx kvs) : Stay H (upd H a u) := by
  obtain ⟨w, hw, _, n1, n2⟩ := ro.there
  exact Stay.mut hw n1 (n2 nk) (ro.ns hw) n
/-- an object is written -/
theorem Rel.write (R : Rel K H ι σ e S) (hr : RR K H ι σ e v r) (hl : G.look r e S = some o) (hw : isW r = true) (nk : ∀ kvs, o ≠ .kx kvs := by intro _ z; cases z) :
    ∃ a, v = .ref a ∧ RO K H ι a o ∧ ∀ u o', RO K (upd H a u) ι a o' → Rel K (upd H a u) ι σ (putE r o' e) (putS r o' S) ∧ Post H ι σ e (upd H a u) ι σ (putE r o' e) := by
  cases r with
  | new o => cases hw
  | brw o => cases hw
  | lm i cs => cases hw
  | d x =>
    cases x with
    | ref n =>
      have hl' : S[n]? = some o := hl
      cases hr with
      | ref h1 =>
        rename_i a
        have ro := R.st _ _ _ hl' h1
        have hmem := List.mem_of_getElem? h1
        refine ⟨a, rfl, ro, fun u o' ro' => ⟨⟨R.len, fun i s he => ?_, ?_, fun m q b h2 h3 => ?_, R.nd, R.own, R.brw⟩, ⟨⟨[], by simp⟩, ro.stay u (ro'.nlm upd_same) nk, fun b x h => ?_, fun b x h2 h3 h4 => ?_⟩⟩⟩
        · obtain ⟨w, hw, hs⟩ := R.sl i s he
          refine ⟨w, hw, hs.mono (ro.stay u (ro'.nlm upd_same) nk) ⟨[], by simp⟩ fun b x hb hob hx => ?_⟩
          subst hb
          rw [upd_ne (fun (z : b = a) => R.slot_ne he hob hw (z ▸ hmem))]
          exact hx
        · rw [R.ilen]; exact (List.length_set ..).symm
        · by_cases hm : n = m
          · subst hm
            rw [h1] at h3; cases h3
            have h2' : (S.set n o')[n]? = some q := h2
            rw [List.getElem?_set_self (List.getElem?_eq_some_iff.mp hl').1] at h2'
            cases h2'
            exact ro'
          · have h2' : (S.set n o')[m]? = some q := h2
            rw [List.getElem?_set_ne hm] at h2'
            refine (R.st m q b h2' h3).mono (ro.stay u (ro'.nlm upd_same) nk) ⟨[], by simp⟩ fun x hx => ?_
            rw [upd_ne (fun (z : b = a) => hm (nodup_at R.nd h1 (z ▸ h3)))]
            exact hx
        · by_cases hb : b = a
          · subst hb; exact ⟨u, upd_same⟩
          · exact ⟨x, by rw [upd_ne hb]; exact h⟩
        · rw [upd_ne (fun (z : b = a) => h3 (z ▸ hmem))]
          exact ⟨h2, h3, h4, fun h => h⟩
    | _ => cases hw
  | loc i =>
    have hr' : σ[i]? = some (some v) := hr
    have hl' : (match e[i]? with
      | some (some (.own o)) => some o
      | _ => none) = some o := hl
    split at hl'
    all_goals try cases hl'
    rename_i he
    obtain ⟨w, hw', a, rfl, ro⟩ := R.sl _ _ he
    rw [hr'] at hw'; cases hw'
    obtain ⟨hι, hsep⟩ := R.own _ _ _ he hr'
    have hil : i < e.length := (List.getElem?_eq_some_iff.mp he).1
    have at_i : ∀ o', (e.set i (some (.own o')))[i]? = some (some (.own o')) := fun o' => List.getElem?_set_self hil
    have at_j : ∀ o' j, i ≠ j → (e.set i (some (.own o')))[j]? = e[j]? := fun o' j h => List.getElem?_set_ne h
    refine ⟨a, rfl, ro, fun u o' ro' => ⟨⟨?_, fun j s hj => ?_, R.ilen, fun n q b h2 h3 => ?_, R.nd, fun j q b h2 h3 => ?_, fun j q b h2 h3 => ?_⟩, ⟨⟨[], by simp⟩, ro.stay u (ro'.nlm upd_same) nk, fun b x h => ?_, fun b x h2 h3 h4 => ?_⟩⟩⟩
    · rw [R.len]; exact (List.length_set ..).symm
    · have hj' : (e.set i (some (.own o')))[j]? = some (some s) := hj
      by_cases hij : i = j
      · subst hij
        rw [at_i] at hj'; cases hj'
        exact ⟨_, hr', a, rfl, ro'⟩
      · rw [at_j _ _ hij] at hj'
        obtain ⟨w, hw, hs⟩ := R.sl j s hj'
        refine ⟨w, hw, hs.mono (ro.stay u (ro'.nlm upd_same) nk) ⟨[], by simp⟩ fun b x hb hob hx => ?_⟩
        subst hb
        rw [upd_ne (Ne.symm (hsep j s b (Ne.symm hij) hj' hob hw))]
        exact hx
    · refine (R.st n q b h2 h3).mono (ro.stay u (ro'.nlm upd_same) nk) ⟨[], by simp⟩ fun x hx => ?_
      rw [upd_ne (fun (z : b = a) => hι (z ▸ List.mem_of_getElem? h3))]
      exact hx
    · have h2' : (e.set i (some (.own o')))[j]? = some (some (.own q)) := h2
      by_cases hij : i = j
      · subst hij
        rw [hr'] at h3; cases h3
        refine ⟨hι, fun k s c hk h4 h5 h6 => ?_⟩
        have h4' : (e.set i (some (.own o')))[k]? = some (some s) := h4
        rw [at_j _ _ (Ne.symm hk)] at h4'
        exact hsep k s c hk h4' h5 h6
      · rw [at_j _ _ hij] at h2'
        obtain ⟨q1, q2⟩ := R.own j q b h2' h3
        refine ⟨q1, fun k s c hk h4 h5 h6 => ?_⟩
        have h4' : (e.set i (some (.own o')))[k]? = some (some s) := h4
        by_cases hik : i = k
        · subst hik
          exact q2 i _ c hk he trivial h6
        · rw [at_j _ _ hik] at h4'
          exact q2 k s c hk h4' h5 h6
    · have h2' : (e.set i (some (.own o')))[j]? = some (some (.brw q)) := h2
      by_cases hij : i = j
      · subst hij
        rw [at_i] at h2'; cases h2'
      · rw [at_j _ _ hij] at h2'
        exact R.brw j q b h2' h3
    · by_cases hb : b = a
      · subst hb; exact ⟨u, upd_same⟩
      · exact ⟨x, by rw [upd_ne hb]; exact h⟩
    · have hba : b ≠ a := fun (z : b = a) => h4 ⟨i, _, he, z ▸ hr'⟩
      rw [upd_ne hba]
      refine ⟨h2, h3, ?_, ?_⟩
      · rintro ⟨j, q, h5, h6⟩
        have h5' : (e.set i (some (.own o')))[j]? = some (some (.own q)) := h5
        by_cases hij : i = j
        · subst hij
          rw [hr'] at h6; cases h6
          exact hba rfl
        · rw [at_j _ _ hij] at h5'
          exact h4 ⟨j, q, h5', h6⟩
      · rintro h7 ⟨j, s, h5, h5o, h6⟩
        have h5' : (e.set i (some (.own o')))[j]? = some (some s) := h5
        by_cases hij : i = j
        · subst hij
          rw [hr'] at h6; cases h6
          exact hba rfl
        · rw [at_j _ _ hij] at h5'
          exact h7 ⟨j, s, h5', h5o, h6⟩
end
end G

set_option Elab.async false
set_option linter.all false
set_option maxRecDepth 1000000
set_option maxHeartbeats 4000000
/-! GX: defs that are called where no repr is under way. -/
namespace G
variable [Wld]
open PySem PySem.Spec PyProof.Rows L2
/-- FnOk, where no guard stands -/
structure FnG (P : Program) (w : World) (K : PySem.W.Frag) (mg : Str → Option Value) (base : Heap) (k : Nat) (f : Addr) (fd : FuncData) (ps : List Str) (sp : Sp) : Prop where
  len : ∀ vs H Q E, sp vs H Q E → vs.length = ps.length
  run : ∀ (A : Around) (outer : List PySem.Env) (s : Shared) (H : Hp) (args : Args) (us : List Value) (vs : List V) (Q : VK) (E : XK), Room k A → A.guards = some [] → Env0 P w K mg base A outer s H →
    BindsTo s fd args (ps.zip us) → Vals vs us → sp vs H Q E → codeAny (model P w) A (.call (.ref f) args) (CR CX0 outer P w H s Q E) s
section
variable {X : Cx} {k : Nat} {f : Addr} {fd : FuncData} {ps : List Str} {sp : Sp} {dvs : List V} {ds : List Value} {E : XK}
theorem FnG.enter {pins : List (Addr × PySem.Obj)} {σ : SV} {H : Hp} {s : Shared} {Q : VK} {us : List Value} {vs : List V} (F : FnG X.prog X.w X.K X.mg X.base k f fd ps sp) (hr : Room k X.A) (hg : X.A.guards = some []) (hb : Binds X.K fd ps ds) (hd : Vals dvs ds) (hx : Passes CX0 X E)
    (I : Inv X pins σ H s) (r : Vals vs us) (h : sp (vs ++ dvs) H Q E) : wpAny (model X.prog X.w) X.A (call (.ref f) us) (EP X pins σ Q) X.xe s := by
  have rr : Vals (vs ++ dvs) (us ++ ds) := r.append hd
  refine wpAny_call (codeAny_mono (F.run X.A X.stack s H ⟨us, []⟩ _ _ Q E hr hg I.env0 (hb s us I.kIn (by rw [← rr.length]; exact F.len _ _ _ _ h)) rr h) fun z s' hz => ?_)
  match z, hz with
  | .error e, hz => exact hx pins σ H s e s' I hz
  | .ok (.ret u), hz => exact I.after hz
  | .ok .next, hz => exact hz.elim
  | .ok .brk, hz => exact hz.elim
  | .ok .cont, hz => exact hz.elim
theorem FnG.mono {P : Program} {w : World} {K : PySem.W.Frag} {mg : Str → Option Value} {base : Heap} {j k : Nat} {f : Addr} {fd : FuncData} {ps : List Str} {sp : Sp} (F : FnG P w K mg base j f fd ps sp) (h : j ≤ k) : FnG P w K mg base k f fd ps sp :=
  ⟨F.len, fun A outer s H args us vs Q E hr => F.run A outer s H args us vs Q E (hr.mono h)⟩
theorem pe_callG {x : Str} {e : Expr} {es : List Expr} {t : TA} {p pos : Pos} (F : FnG X.prog X.w X.K X.mg X.base k f fd ps sp) (hr : Room k X.A) (hgd : X.A.guards = some []) (hg : Gl X x) (hm : X.mg x = some (.ref f)) (hk : PySem.W.keepIn X.K (.ref f) = true) (hb : Binds X.K fd ps ds) (hd : Vals dvs ds) (hx : Passes CX0 X E)
    (ha : PA X (e :: es) t) (hdb : (x == ("__debug__" : Str)) = false := by decide) (he : starEach (e :: es) X.env = (false, eval e X.env) :: starEach es X.env := by rfl) (hpl : (backTo pos (starEach es X.env)).any (·.1) = false := by rfl) : PE X (.Call (.Name x p) (e :: es) [] pos) (tCall sp dvs E t) :=
  ⟨fun pins s σ H Q I h => wpAny_Call_Name_kw (ld_glob I hg hm (PySem.W.callWith_K (h₀ := X.base) I.ok.mod.kin hk (thn (ha.run pos pins s σ H _ I h) fun us s1 ⟨vs, H1, I1, r, q⟩ => ⟨I1.kIn, F.enter hr hgd hb hd hx I1 r q⟩) he hpl) hdb)⟩
end
section
variable {P : Program} {w : World} {K : PySem.W.Frag} {mg : Str → Option Value} {base : Heap}
theorem deeper_guards {A : Around} {env : PySem.Env} (h : A.guards = some []) : (A.deeper env).guards = some [] := by
  first | exact h | (simp [Around.deeper, pushGuards, h])
/-- a def by its body -/
theorem FnG.of {x qual : Str} {st : Stmt} {f : Addr} {fd : FuncData} {N ps : List Str} {k : Nat} {sp : Sp} (F : Fun K x qual st f fd) (S : FnScope N ps (defScope st)) (len : ∀ vs H Q E, sp vs H Q E → vs.length = ps.length)
    (body : ∀ (cdv : Value), fd.code = cdv → ∀ (A : Around) (outer : List PySem.Env) (s : Shared) (H : Hp) (vs : List V) (Q : VK) (E : XK), Room k (A.deeper (envOfC qual (defScope st) s.heap.objs.size f cdv)) → (A.deeper (envOfC qual (defScope st) s.heap.objs.size f cdv)).guards = some [] → sp vs H Q E →
      ∃ t, PSs (cxOf CX0 P w K mg base N qual (defScope st) f cdv A outer s H E).nox (defBody st) t ∧ t { nx := fun _ H' => Q .non H', rt := Q } (start N vs) H) :
    FnG P w K mg base (k + 1) f fd ps sp := by
  obtain ⟨oc, od, kV, doc, pm, an, cdv, ct, osl, rfl, lk, hcd⟩ := F.ex
  refine ⟨len, fun A outer s H args us vs Q E hr hg e0 hb r hsp => ?_⟩
  have hl := len _ _ _ _ hsp
  have hK : K.In s.heap := e0.mod.kin.keeps fun b o z => (e0.bs b o z).1
  have hlim : s.heap.NoLimit := e0.mod.nolimit.keeps fun b o z => (e0.bs b o z).1
  refine codeAny_call_function hr.depth (hK _ _ lk) rfl S.co S.gen rfl (PySem.W.codeRec_of hK hcd) (hb _ _ _ _ ?_)
  refine wpAny_newFunctionEnv_cells S.kind (fun p hp => ?_) fun env he s1 x => ?_
  · rcases S.par p.1 (List.of_mem_zip (show (p.1, p.2) ∈ ps.zip us from hp)).1 with z | z
    · exact .inl z
    · exact .inr ⟨z, PySem.W.cellsFrom_some _ _ _ (.inl z)⟩
  subst he
  refine ⟨hlim.keeps x.toInCall.keep, codeAny_func ?_⟩
  obtain ⟨t, ht, hq⟩ := body cdv rfl A outer s H vs Q E (hr.deeper _) (deeper_guards hg) hsp
  have I := inv_start (CX := CX0) (E := E) S hr.hd e0 hl r x
  refine wpAny_mono (ht.nox.run [] s1 (start N vs) H _ I hq) (fun fl s' hs => ?_) fun _ _ z => z
  match fl, hs with
  | .ret u, ⟨v, σ', H', J, rv, z⟩ => exact ⟨v, H', J.os, J.bare, J.base, J.hok, rv, z⟩
  | .next, ⟨σ', H', J, z⟩ => exact ⟨.non, H', J.os, J.bare, J.base, J.hok, rfl, z⟩
  | .brk, ⟨_, _, _, z⟩ => exact z.elim
  | .cont, ⟨_, _, _, z⟩ => exact z.elim
end
section
variable {P : Program} {w : World} {K : PySem.W.Frag}
/-- the law's call, where what is tracked is at most the script -/
theorem law_coreG {mg mb : Str → Option Value} {k : Nat} {fa a : Addr} {fd : FuncData} {x : Str} {sp : Sp} {s : Shared} {vs : List Value} {ns : List Int} {H : Hp}
    (KX : K.In s.heap) (hns : s.heap.Ns mainGlobals mg) (hb : s.heap.Ns builtinsNs mb) (hbb : ∀ x : Str, x ≠ "__name__" → mb x = bootBuiltins x) (hlim : s.heap.NoLimit) (hgen : s.gens = #[])
    (ha : s.heap.get? a = some { cls := .type "list", data := .seq vs.toArray }) (hr : Room k callerA)
    (F : ∀ base : Heap, K.In base → base.Ns mainGlobals mg → FnG P w K mg base k fa fd [x] sp) (hbind : ∀ (s : Shared) (u : Value), BindsTo s fd ⟨[u], []⟩ [(x, u)])
    (hO : Only H) (hsp : sp [.ref a] H (fun v _ => v = .bl true) fun _ _ _ => False) (hok : HOk P w H s.heap) (hA : ∀ b, H b ≠ none → b = a) (hK : H a ≠ none → K.lookup a = none) :
    codeAny (model P w) callerA (.call (.ref fa) ⟨[.ref a], []⟩) (fun r s' => r = .ok (.ret (.bool true)) ∧ OldK s.heap s'.heap ∧ s'.os = s.os ∧ AllBare s'.gens) s := by
  have other : ∀ {b : Addr} {o : PySem.Obj}, s.heap.get? b = some o → H b ≠ none → b = a ∧ o = { cls := .type "list", data := .seq vs.toArray } := fun {b o} e z => by
    have e' := hA b z
    subst e'
    rw [ha] at e
    exact ⟨rfl, (Option.some.inj e).symm⟩
  have dictFree : ∀ {b : Addr} {o : PySem.Obj} {es : Array DictEntry} {ep : Nat}, s.heap.get? b = some o → o.data = .dict es ep → H b = none := fun {b o es ep} e d => Classical.byContradiction fun z => by
    obtain ⟨_, rfl⟩ := other e z
    cases d
  have nsK : ∀ {b : Addr} {m : Str → Option Value}, s.heap.Ns b m → (hidT s.heap H).Ns b m := fun {b m} ⟨o, es, ep, e, d, r⟩ => ⟨o, es, ep, hidT_get e (dictFree e d), d, r⟩
  have inK : K.In (hidT s.heap H) := fun b o e => hidT_get (KX b o e) (Classical.byContradiction fun z => by
    obtain ⟨rfl, _⟩ := other (KX b o e) z
    rw [hK z] at e; cases e)
  have e0 : Env0 P w K mg (hidT s.heap H) callerA [] s H :=
    ⟨rfl, ⟨inK, nsK hns, ⟨mb, nsK hb, hbb⟩, let ⟨mc, h1, h2⟩ := hlim; ⟨mc, nsK h1, h2⟩⟩, fun b o e => of_hidT e, Nat.le_of_eq (hidT_size _ _), trivial, fun b hb => (nomatch hb), hok, .of_eq hgen⟩
  refine codeAny_mono ((F _ inK (nsK hns)).run callerA [] s H ⟨[.ref a], []⟩ [.ref a] [.ref a] _ _ hr rfl e0 (hbind s (.ref a)) (.cons rfl .nil) hsp) fun r s' h => ?_
  match r, h with
  | .error e, h => exact (show False from h).elim
  | .ok .next, h => exact h.elim
  | .ok .brk, h => exact h.elim
  | .ok .cont, h => exact h.elim
  | .ok (.ret u), ⟨v, H', os, bare, un, hok', r', q⟩ =>
    obtain rfl : v = .bl true := q
    obtain rfl : u = Value.bool true := r'
    refine ⟨rfl, OldK.of_keep fun b o e => ?_, os, bare⟩
    cases q : H b with
    | none => exact un.keep b o e q (fun z => nomatch z) (fun z => nomatch z)
    | some u =>
      rcases hO b with z | ⟨ob, xs, z⟩
      · rw [q] at z; cases z
      · obtain ⟨e1, _⟩ := hok b _ z
        obtain ⟨e2, _⟩ := hok' b _ (un.frzs b ob _ z)
        rw [e] at e1; cases e1
        exact e2
end
/-- the law's call: the script is locked from the start, or one of the text's own objects -/
theorem law_callG {P : Program} {w : World} {K : PySem.W.Frag} {mg mb : Str → Option Value} {k : Nat} {fa a : Addr} {fd : FuncData} {x : Str} {sp : Sp} {s : Shared} {vs : List Value} {ns : List Int}
    (KX : K.In s.heap) (hns : s.heap.Ns mainGlobals mg) (hb : s.heap.Ns builtinsNs mb) (hbb : ∀ x : Str, x ≠ "__name__" → mb x = bootBuiltins x) (hlim : s.heap.NoLimit) (hgen : s.gens = #[])
    (ha : s.heap.get? a = some { cls := .type "list", data := .seq vs.toArray }) (hi : IntsAre vs ns) (hl : ns.length ≤ sizeLine) (hr : Room k callerA)
    (F : ∀ base : Heap, K.In base → base.Ns mainGlobals mg → FnG P w K mg base k fa fd [x] sp) (hbind : ∀ (s : Shared) (u : Value), BindsTo s fd ⟨[u], []⟩ [(x, u)])
    (hsp : ∀ H : Hp, Only H → SqL K H a (ns.map V.int) → sp [.ref a] H (fun v _ => v = .bl true) fun _ _ _ => False) :
    codeAny (model P w) callerA (.call (.ref fa) ⟨[.ref a], []⟩) (fun r s' => r = .ok (.ret (.bool true)) ∧ OldK s.heap s'.heap ∧ s'.os = s.os ∧ AllBare s'.gens) s := by
  have rv := vals_ints hi
  have go := fun (H : Hp) (hO : Only H) (hS : SqL K H a (ns.map V.int)) => law_coreG (ns := ns) (H := H) KX hns hb hbb hlim hgen ha hr F hbind hO (hsp H hO hS)
  cases hk : K.lookup a with
  | some o =>
    obtain rfl : { cls := .type "list", data := .seq vs.toArray } = o := Option.some.inj (ha.symm.trans (KX a o hk))
    exact go (fun _ => none) (fun _ => .inl rfl) (.inr ⟨_, vs.toArray, _, hk, rfl, rfl, rfl, by rw [List.size_toArray, hi.length]; exact hl, by simpa using rv⟩) (fun _ _ z => nomatch z) (fun _ z => absurd rfl z) (fun z => absurd rfl z)
  | none =>
    let L : HO := .frz { cls := .type "list", data := .seq vs.toArray } (.lst (ns.map V.int))
    have at1 : ∀ b, b ≠ a → (fun b => if b = a then some L else none : Hp) b = none := fun b z => if_neg z
    refine go (fun b => if b = a then some L else none) (fun b => ?_) (.inl (.inr ⟨_, if_pos rfl⟩)) (fun b u z => ?_) (fun b z => Classical.byContradiction fun c => z (at1 b c)) (fun _ => hk)
    · by_cases c : b = a
      · exact .inr ⟨_, _, if_pos c⟩
      · exact .inl (at1 b c)
    · by_cases c : b = a
      · subst c
        obtain rfl : L = u := Option.some.inj ((if_pos rfl).symm.trans z)
        exact ⟨ha, by rw [List.length_map]; exact hl, vs, _, rv, ha⟩
      · rw [at1 b c] at z; cases z
end G

set_option Elab.async false
set_option linter.all false
set_option maxRecDepth 1000000
set_option maxHeartbeats 2000000
/-! G3: locking, boxing; argument lists, displays; calls of own defs. -/
namespace G
variable [Wld]
open PySem PySem.Spec PyProof.Rows L2

/-! ### locking -/
section
variable {X : Cx} {pins : List (Addr × PySem.Obj)} {σ : SV} {H : Hp} {s : Shared}
theorem Inv.freeze (I : Inv X pins σ H s) {a : Addr} {u : HO} (h : H a = some u) (hm : (∃ xs, u = .lst xs) ∨ ∃ kvs, u = .dK kvs) : ∃ o, Inv X pins σ (upd H a (.frz o u)) s := by
  have x := I.hok a u h
  have ob : ∃ o, s.heap.get? a = some o ∧ ∀ H', ObjOk X.prog X.w H' s.heap a u := by
    rcases hm with ⟨xs, rfl⟩ | ⟨kvs, rfl⟩
    · obtain ⟨z, its, n, r, e⟩ := x
      exact ⟨_, e, fun _ => ⟨z, its, n, r, e⟩⟩
    · obtain ⟨z, y, vs, r, o, es, ep, e, c⟩ := x
      exact ⟨o, e, fun _ => ⟨z, y, vs, r, o, es, ep, e, c⟩⟩
  obtain ⟨o, ho, hok⟩ := ob
  have nown : ∀ b y, H b = some (.own y) → b ≠ a := fun b y e z => by
    subst z; rw [h] at e; cases e
    rcases hm with ⟨_, e⟩ | ⟨_, e⟩ <;> cases e
  have ntup : ∀ b y, H b = some (.tup y) → b ≠ a := fun b y e z => by
    subst z; rw [h] at e; cases e
    rcases hm with ⟨_, e⟩ | ⟨_, e⟩ <;> cases e
  have nfrz : ∀ b y z, H b = some (.frz y z) → b ≠ a := fun b y _ e z => by
    subst z; rw [h] at e; cases e
    rcases hm with ⟨_, e⟩ | ⟨_, e⟩ <;> cases e
  have ntbl : ∀ b y, H b = some (.tbl y) → b ≠ a := fun b y e z => by
    subst z; rw [h] at e; cases e
    rcases hm with ⟨_, e⟩ | ⟨_, e⟩ <;> cases e
  have nnon : ∀ b, H b = none → b ≠ a := fun b e z => by subst z; rw [h] at e; cases e
  refine ⟨o, I.ok, I.os, I.bare, ⟨I.base.keep, I.base.slot, fun b q e n hx => ?_, I.base.there, fun b xs e => ?_, fun b q xs e => ?_, fun b ps e => ?_⟩, I.loc, I.cell, ?_, fun x c e => ?_, fun p hp => ?_, fun b q e => ?_, I.len⟩
  · have z := I.base.free b q e n hx
    rw [upd_ne (nnon b z)]; exact z
  · have z := I.base.tups b xs e
    rw [upd_ne (ntup b _ z)]; exact z
  · have z := I.base.frzs b q xs e
    rw [upd_ne (nfrz b _ _ z)]; exact z
  · obtain ⟨m, z⟩ := I.base.tbls b ps e
    exact ⟨m, by rw [upd_ne (ntbl b _ z)]; exact z⟩
  · rw [upd_ne (nnon _ I.free)]; exact I.free
  · rw [upd_ne (nnon _ (I.freeC x c e))]; exact I.freeC x c e
  · obtain ⟨e, n, ne, nf, d⟩ := I.pin p hp
    exact ⟨e, by rw [upd_ne (nnon _ n)]; exact n, ne, nf, d⟩
  · by_cases hb : b = a
    · subst hb
      rw [upd_same] at e; cases e
      exact ⟨ho, hok _⟩
    · rw [upd_ne hb] at e
      exact (I.hok b q e).stay (fun c v _ k => k) (fun c k => by rw [upd_ne (nown c b k)]; exact k) fun c xs k => by rw [upd_ne (ntup c xs k)]; exact k
end
def fzQ (Q : VK) : VK := fun v H1 => Q v H1 ∨ ∃ a u, v = .ref a ∧ H1 a = some u ∧ ((∃ xs, u = .lst xs) ∨ ∃ kvs, u = .dK kvs) ∧ ∀ o, Q v (upd H1 a (.frz o u))
theorem PE.freeze {X : Cx} {ex : Expr} {t : TE} (h : PE X ex t) : PE X ex (fun σ H Q => t σ H (fzQ Q)) := ⟨fun pins s σ H Q I q =>
  thn (h.run pins s σ H _ I q) fun v s1 ⟨x, H1, I1, r1, q1⟩ => by
    rcases q1 with q1 | ⟨a, u, rfl, hu, hm, q1⟩
    · exact ⟨x, H1, I1, r1, q1⟩
    · obtain ⟨o, I2⟩ := Inv.freeze I1 hu hm
      exact ⟨_, _, I2, r1, q1 o⟩⟩
def lock : O → Option D
  | .lst ds => some (.lst ds)
  | .dct kvs => some (.dic (kvs.map (·.1)) (kvs.map (·.2)))
  | .kd _ => none
  | .tab _ => none
  | .ins _ _ _ => none
  | .kx _ => none
theorem List.zip_map_fst_snd {α β : Type} (l : List (α × β)) : (l.map (·.1)).zip (l.map (·.2)) = l := by
  induction l with
  | nil => rfl
  | cons x l ih => simp [ih]
theorem RK.split {K : PySem.W.Frag} {H : Hp} {ι : List Addr} {ws : List (Key × V)} {kvs : List (Key × D)} (h : RK K H ι ws kvs) : ws.map (·.1) = kvs.map (·.1) ∧ RDs K H ι (ws.map (·.2)) (kvs.map (·.2)) := by
  induction h with
  | nil => exact ⟨rfl, .nil⟩
  | cons h1 _ ih => exact ⟨by rw [List.map_cons, List.map_cons, h1.1, ih.1], .cons h1.2 ih.2⟩
/-- as data: a new object is locked -/
def toD (r : R) : M R := fun e S => match r with
  | .d x => some (.d x, e, S)
  | .new o => (lock o).map fun d => (.d d, e, S)
  | .loc i => match e[i]? with
    | some (some (.own o)) => (lock o).map fun d => (.d d, e.set i (some (.d d)), S)
    | _ => none
  | .brw _ => none
  | .lm _ _ => none
def mD (m : M R) : M R := bnd m toD
/-- a new object is put into the store -/
def toBox (r : R) : M R := fun e S => match r with
  | .new o => some (.d (.ref S.length), e, S ++ [o])
  | _ => none
def mBox (m : M R) : M R := bnd m toBox
section
variable {K : PySem.W.Frag} {H : Hp} {ι : List Addr} {σ : SV} {e : En} {S : Sto} {v : V} {o : O} {a : Addr} {d : D}
theorem RO.lock (ro : RO K H ι a o) (hl : lock o = some d) : ∃ u, H a = some u ∧ ((∃ xs, u = .lst xs) ∨ ∃ kvs, u = .dK kvs) ∧ ∀ ob ι', Stay H (upd H a (.frz ob u)) → (∃ l, ι' = ι ++ l) → RD K (upd H a (.frz ob u)) ι' (.ref a) d := by
  cases o with
  | lst ds =>
    cases hl
    obtain ⟨xs, h1, h2⟩ := ro
    exact ⟨_, h1, .inl ⟨_, rfl⟩, fun ob ι' st p => .lst (.inl ⟨_, upd_same⟩) (RDs.mono st p _ _ h2)⟩
  | dct kvs =>
    cases hl
    obtain ⟨ws, h1, h2⟩ := ro
    obtain ⟨q1, q2⟩ := h2.split
    refine ⟨_, h1, .inr ⟨_, rfl⟩, fun ob ι' st p => .dic (xs := ws.map (·.2)) (o := ob) ?_ (by simp) (RDs.mono st p _ _ q2)⟩
    rw [← q1, List.zip_map_fst_snd ws]
    exact upd_same
  | kd kvs => cases hl
  | tab q => cases hl
  | ins _ _ _ => cases hl
  | kx _ => cases hl
/-- the slot's object is locked -/
theorem Rel.lockSlot {i : Nat} {u : HO} {ob : PySem.Obj} (R : Rel K H ι σ e S) (he : e[i]? = some (some (.own o))) (hσ : σ[i]? = some (some (.ref a))) (ro : RO K H ι a o) (rd : RD K (upd H a (.frz ob u)) ι (.ref a) d) (nk : ∀ kvs, o ≠ .kx kvs) :
    Rel K (upd H a (.frz ob u)) ι σ (e.set i (some (.d d))) S ∧ Post H ι σ e (upd H a (.frz ob u)) ι σ (e.set i (some (.d d))) := by
  obtain ⟨hι, hsep⟩ := R.own _ _ _ he hσ
  have hil : i < e.length := (List.getElem?_eq_some_iff.mp he).1
  have at_i : (e.set i (some (.d d)))[i]? = some (some (.d d)) := List.getElem?_set_self hil
  have at_j : ∀ j, i ≠ j → (e.set i (some (.d d)))[j]? = e[j]? := fun j h => List.getElem?_set_ne h
  have st := ro.stay (.frz ob u) (lmu_of fun _ z => nomatch z) nk
  refine ⟨⟨by rw [R.len]; simp, fun j s hj => ?_, R.ilen, fun n q b h2 h3 => ?_, R.nd, fun j q b h2 h3 => ?_, fun j q b h2 h3 => ?_⟩, ⟨⟨[], by simp⟩, st, fun b x h => ?_, fun b x h2 h3 h4 => ?_⟩⟩
  · by_cases hij : i = j
    · subst hij
      rw [at_i] at hj; cases hj
      exact ⟨_, hσ, rd⟩
    · rw [at_j _ hij] at hj
      obtain ⟨w, hw, hs⟩ := R.sl j s hj
      refine ⟨w, hw, hs.mono st ⟨[], by simp⟩ fun b x hb hob hx => ?_⟩
      subst hb
      rw [upd_ne (Ne.symm (hsep j s b (Ne.symm hij) hj hob hw))]
      exact hx
  · refine (R.st n q b h2 h3).mono st ⟨[], by simp⟩ fun x hx => ?_
    rw [upd_ne (fun (z : b = a) => hι (z ▸ List.mem_of_getElem? h3))]
    exact hx
  · by_cases hij : i = j
    · subst hij
      rw [at_i] at h2; cases h2
    · rw [at_j _ hij] at h2
      obtain ⟨q1, q2⟩ := R.own j q b h2 h3
      refine ⟨q1, fun k s c hk h4 h5 h6 => ?_⟩
      by_cases hik : i = k
      · subst hik
        rw [at_i] at h4; cases h4
        exact h5.elim
      · rw [at_j _ hik] at h4
        exact q2 k s c hk h4 h5 h6
  · by_cases hij : i = j
    · subst hij
      rw [at_i] at h2; cases h2
    · rw [at_j _ hij] at h2
      exact R.brw j q b h2 h3
  · by_cases hb : b = a
    · subst hb; exact ⟨_, upd_same⟩
    · exact ⟨x, by rw [upd_ne hb]; exact h⟩
  · have hba : b ≠ a := fun (z : b = a) => h4 ⟨i, _, he, z ▸ hσ⟩
    rw [upd_ne hba]
    refine ⟨h2, h3, ?_, ?_⟩
    · rintro ⟨j, q, h5, h6⟩
      by_cases hij : i = j
      · subst hij
        rw [at_i] at h5; cases h5
      · rw [at_j _ hij] at h5
        exact h4 ⟨j, q, h5, h6⟩
    · rintro h7 ⟨j, s, h5, h5o, h6⟩
      by_cases hij : i = j
      · subst hij
        rw [at_i] at h5; cases h5
        exact h5o.elim
      · rw [at_j _ hij] at h5
        exact h7 ⟨j, s, h5, h5o, h6⟩
/-- a new object becomes one of the store -/
theorem Rel.box {H0 : Hp} {ι0 : List Addr} {σ0 : SV} {e0 : En} (R : Rel K H ι σ e S) (P : Post H0 ι0 σ0 e0 H ι σ e) (ro : RO K H ι a o) (h1 : a ∉ ι) (h2 : ¬ Obj σ e a) (f : H0 a = none) :
    Rel K H (ι ++ [a]) σ e (S ++ [o]) ∧ Post H0 ι0 σ0 e0 H (ι ++ [a]) σ e := by
  have p : ∃ l, ι ++ [a] = ι ++ l := ⟨[a], rfl⟩
  refine ⟨⟨R.len, fun i s he => ?_, by simp [R.ilen], fun n q b h3 h4 => ?_, ?_, fun i q b h3 h4 => ?_, fun i q b h3 h4 => ?_⟩, ⟨?_, P.stay, P.dom, fun b x h3 h4 h5 => ?_⟩⟩
  · obtain ⟨w, hw, hs⟩ := R.sl i s he
    exact ⟨w, hw, hs.mono (.refl _) p fun _ _ _ _ h => h⟩
  · by_cases hn : n < S.length
    · rw [List.getElem?_append_left hn] at h3
      rw [List.getElem?_append_left (by rw [R.ilen]; exact hn)] at h4
      exact (R.st n q b h3 h4).mono (.refl _) p fun _ h => h
    · have hlt := (List.getElem?_eq_some_iff.mp h3).1
      have e : n = S.length := by simp at hlt; omega
      subst e
      rw [List.getElem?_append_right (Nat.le_refl _)] at h3
      rw [List.getElem?_append_right (by rw [R.ilen]; exact Nat.le_refl _), R.ilen] at h4
      simp at h3 h4
      subst h3 h4
      exact ro.mono (.refl _) p fun _ h => h
  · rw [List.nodup_append]
    refine ⟨R.nd, by simp, fun x hx y hy => ?_⟩
    simp at hy; subst hy
    exact fun z => h1 (z ▸ hx)
  · obtain ⟨q1, q2⟩ := R.own i q b h3 h4
    refine ⟨fun hb => ?_, q2⟩
    rcases List.mem_append.mp hb with hb | hb
    · exact q1 hb
    · simp at hb; subst hb
      exact h2 ⟨i, _, h3, trivial, h4⟩
  · intro hb
    rcases List.mem_append.mp hb with hb | hb
    · exact R.brw i q b h3 h4 hb
    · simp at hb; subst hb
      exact h2 ⟨i, _, h3, trivial, h4⟩
  · obtain ⟨l, e⟩ := P.pre
    exact ⟨l ++ [a], by rw [e]; simp⟩
  · obtain ⟨q1, q2, q3, q4⟩ := P.keep b x h3 h4 h5
    refine ⟨q1, fun hb => ?_, q3, q4⟩
    rcases List.mem_append.mp hb with hb | hb
    · exact q2 hb
    · simp at hb; subst hb
      rw [f] at h3; cases h3
end
theorem ge_D {X : Cx} {ex : Expr} {m : M R} (h : GE X ex m) : GE X ex (mD m) := PE.imp (PE.freeze h) fun σ H Q q => by
  obtain ⟨ι, e, S, r, e', S', R, hm, q⟩ := q
  obtain ⟨x, e1, S1, h1, hm⟩ := bnd_eq hm
  refine ⟨ι, e, S, x, e1, S1, R, h1, fun v H1 ι1 R1 P1 r1 f1 => ?_⟩
  cases x with
  | d x => cases hm; exact .inl (q v H1 ι1 R1 P1 r1 trivial)
  | brw o => cases hm
  | lm i cs => cases hm
  | new o =>
    obtain ⟨d, hd, e2⟩ := Option.map_eq_some_iff.mp (show (lock o).map (fun d => (G.R.d d, e1, S1)) = some (r, e', S') from hm)
    cases e2
    obtain ⟨a, rfl, ro, n1, n2⟩ := r1
    obtain ⟨a', ea, f1⟩ := f1
    cases ea
    obtain ⟨u, hu, hk, rd⟩ := ro.lock hd
    refine .inr ⟨a, u, rfl, hu, hk, fun ob => ?_⟩
    have nk : ∀ kvs, o ≠ .kx kvs := fun kvs z => by rw [z] at hd; cases hd
    have st := RO.stay ro (.frz ob u) (lmu_of fun _ z => nomatch z) nk
    exact q _ _ ι1 (R1.other st n1 n2) (P1.fresh f1 st) (rd ob ι1 st ⟨[], by simp⟩) trivial
  | loc i =>
    have hm' : (match e1[i]? with
      | some (some (.own o)) => (lock o).map fun d => (G.R.d d, e1.set i (some (.d d)), S1)
      | _ => none) = some (r, e', S') := hm
    split at hm'
    · rename_i o he
      obtain ⟨d, hd, e2⟩ := Option.map_eq_some_iff.mp hm'
      cases e2
      obtain ⟨w, hw, a, rfl, ro⟩ := R1.sl _ _ he
      have hr : σ[i]? = some (some v) := r1
      rw [hr] at hw; cases hw
      obtain ⟨u, hu, hk, rd⟩ := ro.lock hd
      refine .inr ⟨a, u, rfl, hu, hk, fun ob => ?_⟩
      have nk : ∀ kvs, o ≠ .kx kvs := fun kvs z => by rw [z] at hd; cases hd
      have st := RO.stay ro (.frz ob u) (lmu_of fun _ z => nomatch z) nk
      have rd' := rd ob ι1 st ⟨[], by simp⟩
      obtain ⟨R2, P2⟩ := R1.lockSlot he hr ro rd' nk
      exact q _ _ ι1 R2 (P1.trans P2) rd' trivial
    · cases hm'
theorem ge_box {X : Cx} {ex : Expr} {m : M R} (h : GE X ex m) : GE X ex (mBox m) := PE.imp h fun σ H Q q => by
  obtain ⟨ι, e, S, r, e', S', R, hm, q⟩ := q
  obtain ⟨x, e1, S1, h1, hm⟩ := bnd_eq hm
  refine ⟨ι, e, S, x, e1, S1, R, h1, fun v H1 ι1 R1 P1 r1 f1 => ?_⟩
  cases x with
  | new o =>
    cases hm
    obtain ⟨a, rfl, ro, n1, n2⟩ := r1
    obtain ⟨a', ea, f1⟩ := f1
    cases ea
    obtain ⟨R2, P2⟩ := R1.box P1 ro n1 n2 f1
    refine q _ H1 (ι1 ++ [a]) R2 P2 (.ref ?_) trivial
    rw [← R1.ilen]
    simp
  | _ => cases hm

/-! ### argument lists, displays -/
def mNil : M (List R) := pur []
def mCons (a : M R) (b : M (List R)) : M (List R) := bnd a fun x => bnd b fun xs => pur (x :: xs)
def dsOf : List R → Option (List D)
  | [] => some []
  | .d x :: rs => (dsOf rs).map (x :: ·)
  | _ :: _ => none
def dispOf (f : List D → R) (rs : List R) : M R := fun e S => match dsOf rs with
  | some ds => if ds.length ≤ 1000 then some (f ds, e, S) else none
  | none => none
def mTup (ms : M (List R)) : M R := bnd ms (dispOf fun ds => .d (.tup ds))
def mLst (ms : M (List R)) : M R := bnd ms (dispOf fun ds => .new (.lst ds))
theorem dispOf_eq {f : List D → R} {rs : List R} {e : En} {S : Sto} {z : R × En × Sto} (h : dispOf f rs e S = some z) : ∃ ds, dsOf rs = some ds ∧ ds.length ≤ 1000 ∧ z = (f ds, e, S) := by
  unfold dispOf at h
  split at h
  · split at h
    · exact ⟨_, by assumption, by assumption, (Option.some.inj h).symm⟩
    · cases h
  · cases h
theorem RRs.ds {K : PySem.W.Frag} {H : Hp} {ι : List Addr} {σ : SV} {e : En} {vs : List V} {rs : List R} (h : RRs K H ι σ e vs rs) : ∀ {ds : List D}, dsOf rs = some ds → RDs K H ι vs ds := by
  induction h with
  | nil => intro ds e; cases e; exact .nil
  | cons h1 _ ih =>
    rename_i v vs r rs _
    intro ds e
    cases r with
    | d x =>
      obtain ⟨es, e1, e2⟩ := Option.map_eq_some_iff.mp (show (dsOf rs).map (x :: ·) = some ds from e)
      subst e2
      exact .cons h1 (ih e1)
    | _ => cases e
section
variable {X : Cx} {ex : Expr} {es : List Expr} {ma : M R} {ms : M (List R)} {pos : Pos}
theorem ga_nil : GA X [] mNil := PA.imp pa_nil fun σ H Q q => by
  obtain ⟨ι, e, S, r, e', S', R, hm, q⟩ := q
  cases hm
  exact q [] H ι R .refl .nil
theorem ga_cons (ha : GE X ex ma) (hr : GA X es ms) (hs : starEach (ex :: es) X.env = (false, eval ex X.env) :: starEach es X.env := by rfl) : GA X (ex :: es) (mCons ma ms) := PA.imp (pa_cons ha hr hs) fun σ H Q q => by
  obtain ⟨ι, e, S, r, e', S', R, hm, q⟩ := q
  obtain ⟨x, e1, S1, h1, hm⟩ := bnd_eq hm
  obtain ⟨xs, e2, S2, h2, hm⟩ := bnd_eq hm
  cases hm
  exact ⟨ι, e, S, x, e1, S1, R, h1, fun v H1 ι1 R1 P1 r1 _ => ⟨ι1, e1, S1, xs, _, _, R1, h2, fun vs H2 ι2 R2 P2 r2 => q _ H2 ι2 R2 (P1.trans P2) (.cons (r1.post P2) r2)⟩⟩
def tTupN (t : TA) : TE := fun σ H Q => t σ H fun xs H1 => xs.length ≤ sizeLine ∧ ∀ p us, H1 p = none → Q (.ref p) (upd H1 p (.frz (tpo us) (.tup xs)))
theorem pe_tupN {t : TA} {x1} (h : PA X es t) : PE X (.Tuple es x1 pos) (tTupN t) := by
  refine ⟨fun pins s σ H Q I hq => ?_⟩
  refine wpAny_Tuple_spliced (thn (h.run pos pins s σ H _ I hq) fun us s1 ⟨xs, H1, I1, r, z, q⟩ => ⟨by rw [← r.length]; exact z, ?_⟩)
  have hf : H1 s1.heap.objs.size = none := I1.hok.fresh (Nat.le_refl _)
  refine ⟨.ref s1.heap.objs.size, upd H1 s1.heap.objs.size (.frz (tpo us) (.tup xs)), I1.laid (t' := s1.toks) (fun b u e => Heap.get?_push_of_some _ e) (Nat.le_refl _) ?_, rfl, q _ _ hf⟩
  exact ⟨Heap.get?_push_size _ rfl, z, us, r, ⟨_, Heap.get?_push_size _ rfl, rfl, _, rfl⟩⟩
theorem ge_tup {k} (h : GA X es ms) : GE X (.Tuple es k pos) (mTup ms) := PE.imp (pe_tupN h) fun σ H Q q => by
  obtain ⟨ι, e, S, r, e', S', R, hm, q⟩ := q
  obtain ⟨rs, e1, S1, h1, hm⟩ := bnd_eq hm
  refine ⟨ι, e, S, rs, e1, S1, R, h1, fun vs H1 ι1 R1 P1 r1 => ?_⟩
  obtain ⟨ds, hds, hn, hz⟩ := dispOf_eq hm
  cases hz
  have rd := r1.ds hds
  refine ⟨by rw [rd.length]; exact Nat.le_of_lt (small1000 hn), fun p us hp => ?_⟩
  obtain ⟨R2, P2, _⟩ := R1.new (u := .frz (tpo us) (.tup vs)) hp
  exact q _ _ ι1 R2 (P1.trans P2) (.tup .mk (RDs.mono P2.stay P2.pre _ _ rd)) trivial
theorem ge_lst (h : GA X es ms) : GE X (.List es pos) (mLst ms) := PE.imp (pe_lst h) fun σ H Q q => by
  obtain ⟨ι, e, S, r, e', S', R, hm, q⟩ := q
  obtain ⟨rs, e1, S1, h1, hm⟩ := bnd_eq hm
  refine ⟨ι, e, S, rs, e1, S1, R, h1, fun vs H1 ι1 R1 P1 r1 => ?_⟩
  obtain ⟨ds, hds, hn, hz⟩ := dispOf_eq hm
  cases hz
  have rd := r1.ds hds
  refine ⟨by rw [rd.length]; exact Nat.le_of_lt (small1000 hn), fun p hp => ?_⟩
  obtain ⟨R2, P2, n1, n2⟩ := R1.new (u := .lst vs) hp
  exact q _ _ ι1 R2 (P1.trans P2) ⟨p, rfl, ⟨_, upd_same, RDs.mono P2.stay P2.pre _ _ rd⟩, n1, n2⟩ ⟨p, rfl, P1.back hp⟩
end

/-! ### own defs -/
/-- what a def hands back -/
inductive Rt where
  | d (x : D) | new (o : O)
def Rt.r : Rt → R
  | .d x => .d x
  | .new o => .new o
abbrev Fn := List Sl → Sto → Option (Rt × Sto)
/-- an argument as its callee sees it -/
def toArg (r : R) (e : En) : Option Sl := match r with
  | .d x => some (.d x)
  | .new o => some (.brw o)
  | .brw o => some (.brw o)
  | .lm i cs => some (.lm i cs)
  | .loc i => match e[i]? with
    | some (some (.own o)) => some (.brw o)
    | _ => none
def toArgs : List R → En → Option (List Sl)
  | [], _ => some []
  | r :: rs, e => match toArg r e, toArgs rs e with
    | some s, some ss => some (s :: ss)
    | _, _ => none
/-- the store alone -/
structure RelS (K : PySem.W.Frag) (H : Hp) (ι : List Addr) (S : Sto) : Prop where
  ilen : ι.length = S.length
  st : ∀ (n : Nat) (o : O) (a : Addr), S[n]? = some o → ι[n]? = some a → RO K H ι a o
  nd : ι.Nodup
def Sl.isOwn : Sl → Prop
  | .own _ => True
  | _ => False
inductive RSls (K : PySem.W.Frag) (H : Hp) (ι : List Addr) : List V → List Sl → Prop
  | nil : RSls K H ι [] []
  | cons {v vs s ss} : RSl K H ι v s → (∀ a, v = .ref a → s.isObj → a ∉ ι) → ¬ s.isOwn → RSls K H ι vs ss → RSls K H ι (v :: vs) (s :: ss)
structure PostC (H : Hp) (ι : List Addr) (H' : Hp) (ι' : List Addr) : Prop where
  pre : ∃ l, ι' = ι ++ l
  stay : Stay H H'
  dom : ∀ a o, H a = some o → ∃ o', H' a = some o'
  keep : ∀ a o, H a = some o → a ∉ ι → H' a = some o ∧ a ∉ ι'
def RRt (K : PySem.W.Frag) (H : Hp) (H' : Hp) (ι' : List Addr) (v : V) : Rt → Prop
  | .d x => RD K H' ι' v x
  | .new o => ∃ a, v = .ref a ∧ RO K H' ι' a o ∧ a ∉ ι' ∧ H a = none
def spG (K : PySem.W.Frag) (n : Nat) (m : Fn) : Sp := fun vs H Q _ => vs.length = n ∧ ∃ ι sls S r S', RelS K H ι S ∧ RSls K H ι vs sls ∧ m sls S = some (r, S') ∧
  ∀ v H' ι', RelS K H' ι' S' → PostC H ι H' ι' → RRt K H H' ι' v r → Q v H'
def mCall (n : Nat) (f : Fn) (ms : M (List R)) : M R := bnd ms fun rs => if rs.length = n then (fun e S => match toArgs rs e with
  | some sls => (f sls S).map fun (r, S') => (r.r, e, S')
  | none => none) else stk
/-- a def of the text and what it computes -/
structure GF (P : Program) (w : World) (K : PySem.W.Frag) (mg : Str → Option Value) (base : Heap) (k : Nat) (x : Str) (n : Nat) (m : Fn) : Prop where
  ex : ∃ f fd ps, FnG P w K mg base k f fd ps (spG K n m) ∧ mg x = some (.ref f) ∧ PySem.W.keepIn K (.ref f) = true ∧ Binds K fd ps []
section
variable {K : PySem.W.Frag} {H H' : Hp} {ι ι' : List Addr} {σ : SV} {e : En} {S S' : Sto} {v : V} {vs : List V} {r : R} {rs : List R}
theorem Rel.arg (R : Rel K H ι σ e S) (hr : RR K H ι σ e v r) {s : Sl} (h : toArg r e = some s) : RSl K H ι v s ∧ (∀ a, v = .ref a → s.isObj → a ∉ ι) ∧ ¬ s.isOwn := by
  cases r with
  | d x => cases h; exact ⟨hr, fun _ _ z => z.elim, fun z => z⟩
  | new o => cases h; obtain ⟨a, rfl, ro, n1, _⟩ := hr; exact ⟨⟨a, rfl, ro⟩, fun _ e _ => by cases e; exact n1, fun z => z⟩
  | brw o => cases h; obtain ⟨a, rfl, ro, n1, _⟩ := hr; exact ⟨⟨a, rfl, ro⟩, fun _ e _ => by cases e; exact n1, fun z => z⟩
  | lm i cs => cases h; exact ⟨LmR.mono hr (.refl _) ⟨[], by simp⟩ fun _ _ _ _ _ => trivial, fun _ _ z => z.elim, fun z => z⟩
  | loc i =>
    have h' : (match e[i]? with
      | some (some (.own o)) => some (Sl.brw o)
      | _ => none) = some s := h
    split at h'
    · cases h'
      rename_i o he
      obtain ⟨w, hw, a, rfl, ro⟩ := R.sl _ _ he
      have hr' : σ[i]? = some (some v) := hr
      rw [hr'] at hw; cases hw
      exact ⟨⟨a, rfl, ro⟩, fun _ e _ => by cases e; exact (R.own _ _ _ he hr').1, fun z => z⟩
    · cases h'
theorem Rel.args (R : Rel K H ι σ e S) (hr : RRs K H ι σ e vs rs) : ∀ {ss : List Sl}, toArgs rs e = some ss → RSls K H ι vs ss := by
  induction hr with
  | nil => intro ss h; cases h; exact .nil
  | cons h1 _ ih =>
    rename_i v vs r rs _
    intro ss h
    have h' : (match toArg r e, toArgs rs e with
      | some s, some ss => some (s :: ss)
      | _, _ => none) = some ss := h
    split at h'
    · cases h'
      rename_i q1 q2
      obtain ⟨a, b, c⟩ := R.arg h1 q1
      exact .cons a b c (ih q2)
    · cases h'
theorem Rel.s (R : Rel K H ι σ e S) : RelS K H ι S := ⟨R.ilen, R.st, R.nd⟩
/-- behind a call -/
theorem Rel.called (R : Rel K H ι σ e S) (R' : RelS K H' ι' S') (P : PostC H ι H' ι') : Rel K H' ι' σ e S' ∧ Post H ι σ e H' ι' σ e := by
  have kp : ∀ (i : Nat) (s : Sl) (b : Addr), e[i]? = some (some s) → s.isObj → σ[i]? = some (some (.ref b)) → ∀ u, H b = some u → H' b = some u ∧ b ∉ ι' := fun i s b h1 h2 h3 u hu => P.keep b u hu (R.slot_ne h1 h2 h3)
  refine ⟨⟨R.len, fun i s he => ?_, R'.ilen, R'.st, R'.nd, fun i o a h1 h2 => ?_, fun i o a h1 h2 => ?_⟩, ⟨P.pre, P.stay, P.dom, fun b x h1 h2 h3 => ?_⟩⟩
  · obtain ⟨w, hw, hs⟩ := R.sl i s he
    exact ⟨w, hw, hs.mono P.stay P.pre fun a u ha ho hu => by subst ha; exact (kp i s a he ho hw u hu).1⟩
  · obtain ⟨w, hw, hs⟩ := R.sl i _ h1
    rw [h2] at hw; cases hw
    obtain ⟨b, _, u, e1, _, hu, _⟩ := RSl.there hs trivial
    cases e1
    exact ⟨(kp i _ _ h1 trivial h2 u hu).2, (R.own i o a h1 h2).2⟩
  · obtain ⟨w, hw, hs⟩ := R.sl i _ h1
    rw [h2] at hw; cases hw
    obtain ⟨b, _, u, e1, _, hu, _⟩ := RSl.there hs trivial
    cases e1
    exact (kp i _ _ h1 trivial h2 u hu).2
  · obtain ⟨q1, q2⟩ := P.keep b x h1 h2
    exact ⟨q1, q2, h3, fun h => h⟩
theorem Rel.ne_none (R : Rel K H ι σ e S) {a : Addr} (h : H a = none) : ¬ Obj σ e a := fun ⟨i, s, h1, h2, h3⟩ => by
  obtain ⟨w, hw, hs⟩ := R.sl i s h1
  rw [h3] at hw; cases hw
  obtain ⟨b, _, u, e1, _, hu, _⟩ := RSl.there hs h2
  cases e1
  rw [h] at hu; cases hu
end
theorem RRs.length {K : PySem.W.Frag} {H : Hp} {ι : List Addr} {σ : SV} {e : En} {vs : List V} {rs : List R} (h : RRs K H ι σ e vs rs) : vs.length = rs.length := by
  induction h with
  | nil => rfl
  | cons _ _ ih => simp [ih]
theorem tG_call {K : PySem.W.Frag} {f : Fn} {ms : M (List R)} {σ : SV} {H : Hp} {Q : VK} {n : Nat} {E : XK} (q : tG K (bnd ms fun rs => if rs.length = n then (fun e S => match toArgs rs e with
  | some sls => (f sls S).map fun (r, S') => (r.r, e, S')
  | none => none) else stk) σ H Q) : tGA K ms σ H fun vs H1 => spG K n f vs H1 Q E := by
  obtain ⟨ι, e, S, r, e', S', R, hm, q⟩ := q
  obtain ⟨rs, e1, S1, h1, hm⟩ := bnd_eq hm
  refine ⟨ι, e, S, rs, e1, S1, R, h1, fun vs H1 ι1 R1 P1 r1 => ?_⟩
  dsimp only at hm
  split at hm
  · rename_i hn
    have hm' : (match toArgs rs e1 with
      | some sls => (f sls S1).map fun (r, S') => (r.r, e1, S')
      | none => none) = some (r, e', S') := hm
    split at hm'
    · rename_i sls hs
      obtain ⟨⟨rt, S2⟩, h2, e2⟩ := Option.map_eq_some_iff.mp hm'
      cases e2
      refine ⟨by rw [r1.length]; exact hn, ι1, sls, S1, rt, S', R1.s, R1.args r1 hs, h2, fun v H2 ι2 R2 P2 r2 => ?_⟩
      obtain ⟨R3, P3⟩ := R1.called R2 P2
      refine q v H2 ι2 R3 (P1.trans P3) ?_ ?_
      · cases rt with
        | d x => exact r2
        | new o =>
          obtain ⟨a, rfl, ro, n1, n2⟩ := r2
          exact ⟨a, rfl, ro, n1, R1.ne_none n2⟩
      · cases rt with
        | d x => trivial
        | new o =>
          obtain ⟨a, rfl, ro, n1, n2⟩ := r2
          exact ⟨a, rfl, P1.back n2⟩
    · cases hm'
  · cases hm
end G

set_option Elab.async false
set_option linter.all false
set_option maxRecDepth 1000000
set_option maxHeartbeats 2000000
/-! G4: statements, targets, bodies of defs. -/
namespace G
variable [Wld]
open PySem PySem.Spec PyProof.Rows L2

section
variable {X : Cx} {k : Nat} {x : Str} {n : Nat} {f : Fn} {ex : Expr} {es : List Expr} {ms : M (List R)} {p pos : Pos}
theorem ge_call (F : GF X.prog X.w X.K X.mg X.base k x n f) (hr : Room k X.A) (hgd : X.A.guards = some []) (hg : Gl X x) (ha : GA X (ex :: es) ms) (hdb : (x == ("__debug__" : Str)) = false := by decide)
    (he : starEach (ex :: es) X.env = (false, eval ex X.env) :: starEach es X.env := by rfl) (hpl : (backTo pos (starEach es X.env)).any (·.1) = false := by rfl) :
    GE X (.Call (.Name x p) (ex :: es) [] pos) (mCall n f ms) := by
  obtain ⟨fa, fd, ps, ok, hm, hk, hb⟩ := F.ex
  refine PE.imp (pe_callG ok hr hgd hg hm hk hb .nil pass0 ha hdb he hpl) fun σ H Q q => ?_
  have h : tGA X.K ms σ H fun vs H1 => spG X.K n f vs H1 Q E0 := tG_call q
  unfold tCall
  simpa using h
end

/-! ### statements -/
inductive Fl where
  | nx | bk | ct | rt (r : Rt)
/-- what is handed back, by what stood at the start -/
def RRr (K : PySem.W.Frag) (H : Hp) (ι : List Addr) (σ : SV) (e : En) (H' : Hp) (ι' : List Addr) (v : V) : Rt → Prop
  | .d x => RD K H' ι' v x
  | .new o => ∃ a, v = .ref a ∧ RO K H' ι' a o ∧ a ∉ ι' ∧ ∀ u, H a = some u → a ∉ ι → ¬ Own σ e a → False
def tGS (K : PySem.W.Frag) (m : M Fl) : TS := fun D σ H => ∃ ι e S fl e' S', Rel K H ι σ e S ∧ m e S = some (fl, e', S') ∧ match fl with
  | .nx => ∀ σ' H' ι', Rel K H' ι' σ' e' S' → Post H ι σ e H' ι' σ' e' → D.nx σ' H'
  | .bk => ∀ σ' H' ι', Rel K H' ι' σ' e' S' → Post H ι σ e H' ι' σ' e' → D.bk σ' H'
  | .ct => ∀ σ' H' ι', Rel K H' ι' σ' e' S' → Post H ι σ e H' ι' σ' e' → D.ct σ' H'
  | .rt r => ∀ v σ' H' ι', Rel K H' ι' σ' e' S' → Post H ι σ e H' ι' σ' e' → RRr K H ι σ e H' ι' v r → D.rt v H'
abbrev GS (X : Cx) (st : Stmt) (m : M Fl) : Prop := PS X st (tGS X.K m)
abbrev GSs (X : Cx) (st : List Stmt) (m : M Fl) : Prop := PSs X st (tGS X.K m)
/-- one behind the other -/
def mSeq (a b : M Fl) : M Fl := bnd a fun fl => match fl with
  | .nx => b
  | z => pur z
def mSkip : M Fl := pur .nx
theorem RRr.back {K : PySem.W.Frag} {H H1 H' : Hp} {ι ι1 ι' : List Addr} {σ σ1 : SV} {e e1 : En} {v : V} {r : Rt} (h : RRr K H1 ι1 σ1 e1 H' ι' v r) (P : Post H ι σ e H1 ι1 σ1 e1) : RRr K H ι σ e H' ι' v r := by
  cases r with
  | d x => exact h
  | new o =>
    obtain ⟨a, rfl, ro, n, f⟩ := h
    exact ⟨a, rfl, ro, n, fun u h1 h2 h3 => by
      obtain ⟨q1, q2, q3, _⟩ := P.keep a u h1 h2 h3
      exact f u q1 q2 q3⟩
theorem tGS_seq {K : PySem.W.Frag} {a b : M Fl} {D : Ends} {σ : SV} {H : Hp} (h : tGS K (mSeq a b) D σ H) : tSeq (tGS K a) (tGS K b) D σ H := by
  obtain ⟨ι, e, S, fl, e', S', R, hm, q⟩ := h
  obtain ⟨f1, e1, S1, h1, hm⟩ := bnd_eq hm
  refine ⟨ι, e, S, f1, e1, S1, R, h1, ?_⟩
  cases f1 with
  | nx =>
    intro σ1 H1 ι1 R1 P1
    refine ⟨ι1, e1, S1, fl, e', S', R1, hm, ?_⟩
    cases fl with
    | nx => exact fun σ2 H2 ι2 R2 P2 => q σ2 H2 ι2 R2 (P1.trans P2)
    | bk => exact fun σ2 H2 ι2 R2 P2 => q σ2 H2 ι2 R2 (P1.trans P2)
    | ct => exact fun σ2 H2 ι2 R2 P2 => q σ2 H2 ι2 R2 (P1.trans P2)
    | rt r => exact fun v σ2 H2 ι2 R2 P2 r2 => q v σ2 H2 ι2 R2 (P1.trans P2) (r2.back P1)
  | bk => cases hm; exact q
  | ct => cases hm; exact q
  | rt r => cases hm; exact q
section
variable {X : Cx} {st : Stmt} {rest : List Stmt} {a b : M Fl} {ex : Expr} {m : M R} {mt : M Bool} {pos : Pos}
theorem gss_nil : GSs X [] mSkip := PSs.imp pss_nil fun D σ H q => by
  obtain ⟨ι, e, S, fl, e', S', R, hm, q⟩ := q
  cases hm
  exact q σ H ι R .refl
theorem gss_cons (h1 : GS X st a) (h2 : GSs X rest b) : GSs X (st :: rest) (mSeq a b) := PSs.imp (pss_cons h1 h2) fun D σ H q => tGS_seq q
theorem gss_one (h1 : GS X st a) : GSs X [st] a := pss_one h1
def mDrop (m : M R) : M Fl := bnd m fun _ => pur .nx
theorem gs_expr (h : GE X ex m) (hs : swapsWith ex none pos.line X.env = pure false := by rfl) : GS X (.Expr ex pos) (mDrop m) := PS.imp (ps_expr h hs) fun D σ H q => by
  obtain ⟨ι, e, S, fl, e', S', R, hm, q⟩ := q
  obtain ⟨x, e1, S1, h1, hm⟩ := bnd_eq hm
  cases hm
  exact ⟨ι, e, S, x, _, _, R, h1, fun v H1 ι1 R1 P1 _ _ => q σ H1 ι1 R1 P1⟩
def toRt (r : R) : M Fl := fun e S => match r with
  | .d x => some (.rt (.d x), e, S)
  | .new o => some (.rt (.new o), e, S)
  | .loc i => match e[i]? with
    | some (some (.own o)) => some (.rt (.new o), e, S)
    | _ => none
  | .brw _ => none
  | .lm _ _ => none
theorem toRt_loc {i : Nat} {e : En} {S : Sto} {z} (h : toRt (.loc i) e S = some z) : ∃ o, e[i]? = some (some (.own o)) ∧ z = (.rt (.new o), e, S) := by
  have h' : (match e[i]? with
      | some (some (.own o)) => some (Fl.rt (.new o), e, S)
      | _ => none) = some z := h
  split at h'
  · exact ⟨_, by assumption, (Option.some.inj h').symm⟩
  · cases h'
def mRet (m : M R) : M Fl := bnd m toRt
theorem gs_ret (h : GE X ex m) : GS X (.Return (some ex) pos) (mRet m) := PS.imp (ps_ret h) fun D σ H q => by
  obtain ⟨ι, e, S, fl, e', S', R, hm, q⟩ := q
  obtain ⟨x, e1, S1, h1, hm⟩ := bnd_eq hm
  refine ⟨ι, e, S, x, e1, S1, R, h1, fun v H1 ι1 R1 P1 r1 f1 => ?_⟩
  cases x with
  | d x => cases hm; exact q v σ H1 ι1 R1 P1 r1
  | brw o => cases hm
  | lm i cs => cases hm
  | new o =>
    cases hm
    obtain ⟨a, rfl, ro, n1, n2⟩ := r1
    obtain ⟨a', ea, f1⟩ := f1
    cases ea
    exact q _ σ H1 ι1 R1 P1 ⟨a, rfl, ro, n1, fun u hu _ _ => by rw [f1] at hu; cases hu⟩
  | loc i =>
    obtain ⟨o, he, hz⟩ := toRt_loc hm
    cases hz
    obtain ⟨w, hw, a, rfl, ro⟩ := R1.sl _ _ he
    have hr : σ[i]? = some (some v) := r1
    rw [hr] at hw; cases hw
    refine q _ σ H1 ι1 R1 P1 ⟨a, rfl, ro, (R1.own _ _ _ he hr).1, fun u h1 h2 h3 => ?_⟩
    obtain ⟨_, _, n, _⟩ := P1.keep a u h1 h2 h3
    exact n ⟨i, _, he, hr⟩
def mRetN : M Fl := pur (.rt (.d .non))
def mIfS (c : M Bool) (a b : M Fl) : M Fl := bnd c fun x => if x = true then a else b
theorem gs_if {c : Expr} {s1 s2 : List Stmt} (hc : GT X c mt) (h1 : GSs X s1 a) (h2 : GSs X s2 b) : GS X (.If c s1 s2 pos) (mIfS mt a b) := PS.imp (ps_if hc h1 h2) fun D σ H q => by
  obtain ⟨ι, e, S, fl, e', S', R, hm, q⟩ := q
  obtain ⟨x, e1, S1, h1, hm⟩ := bnd_eq hm
  refine ⟨ι, e, S, x, e1, S1, R, h1, fun H1 ι1 R1 P1 => ?_⟩
  have go : tGS X.K (if x = true then a else b) D σ H1 := by
    refine ⟨ι1, e1, S1, fl, e', S', R1, hm, ?_⟩
    cases fl with
    | nx => exact fun σ2 H2 ι2 R2 P2 => q σ2 H2 ι2 R2 (P1.trans P2)
    | bk => exact fun σ2 H2 ι2 R2 P2 => q σ2 H2 ι2 R2 (P1.trans P2)
    | ct => exact fun σ2 H2 ι2 R2 P2 => q σ2 H2 ι2 R2 (P1.trans P2)
    | rt r => exact fun v σ2 H2 ι2 R2 P2 r2 => q v σ2 H2 ι2 R2 (P1.trans P2) (r2.back P1)
  cases x with
  | true => exact go
  | false => exact go
end

/-! ### names stored -/
/-- what a slot takes -/
def toSl : R → Option Sl
  | .d x => some (.d x)
  | .new o => some (.own o)
  | _ => none
def setS (i : Nat) (r : R) : M Fl := fun e S => match toSl r with
  | some s => if i < e.length then some (.nx, e.set i (some s), S) else none
  | none => none
def mSet (i : Nat) (m : M R) : M Fl := bnd m (setS i)
section
variable {K : PySem.W.Frag} {H H0 : Hp} {ι ι0 : List Addr} {σ σ0 : SV} {e e0 : En} {S : Sto} {v : V} {r : R}
theorem Rel.setSl {i : Nat} {s : Sl} (R : Rel K H ι σ e S) (hi : i < e.length) (rs : RSl K H ι v s) (hb : ∀ o, s ≠ .brw o) (hn : ∀ a, v = .ref a → s.isObj → a ∉ ι ∧ ¬ Obj σ e a) :
    Rel K H ι (σ.set i (some v)) (e.set i (some s)) S := by
  have hσ : i < σ.length := by rw [R.len]; exact hi
  have e_i : (e.set i (some s))[i]? = some (some s) := List.getElem?_set_self hi
  have e_j : ∀ j, i ≠ j → (e.set i (some s))[j]? = e[j]? := fun j h => List.getElem?_set_ne h
  have s_i : (σ.set i (some v))[i]? = some (some v) := List.getElem?_set_self hσ
  have s_j : ∀ j, i ≠ j → (σ.set i (some v))[j]? = σ[j]? := fun j h => List.getElem?_set_ne h
  refine ⟨by simp [R.len], fun j t hj => ?_, R.ilen, R.st, R.nd, fun j o a h1 h2 => ?_, fun j o a h1 h2 => ?_⟩
  · by_cases hij : i = j
    · subst hij
      rw [e_i] at hj; cases hj
      exact ⟨v, s_i, rs⟩
    · rw [e_j _ hij] at hj
      rw [s_j _ hij]
      exact R.sl j t hj
  · by_cases hij : i = j
    · subst hij
      rw [e_i] at h1; cases h1
      rw [s_i] at h2; cases h2
      obtain ⟨q1, q2⟩ := hn a rfl trivial
      refine ⟨q1, fun k t b hk h3 h4 h5 => ?_⟩
      rw [e_j _ (Ne.symm hk)] at h3
      rw [s_j _ (Ne.symm hk)] at h5
      exact fun z => q2 ⟨k, t, h3, h4, z ▸ h5⟩
    · rw [e_j _ hij] at h1
      rw [s_j _ hij] at h2
      obtain ⟨q1, q2⟩ := R.own j o a h1 h2
      refine ⟨q1, fun k t b hk h3 h4 h5 => ?_⟩
      by_cases hik : i = k
      · subst hik
        rw [e_i] at h3; cases h3
        rw [s_i] at h5; cases h5
        exact fun z => (hn b rfl h4).2 ⟨j, _, h1, trivial, z ▸ h2⟩
      · rw [e_j _ hik] at h3
        rw [s_j _ hik] at h5
        exact q2 k t b hk h3 h4 h5
  · by_cases hij : i = j
    · subst hij
      rw [e_i] at h1; cases h1
      exact (hb o rfl).elim
    · rw [e_j _ hij] at h1
      rw [s_j _ hij] at h2
      exact R.brw j o a h1 h2
theorem Post.setSl {i : Nat} {s : Sl} (P : Post H0 ι0 σ0 e0 H ι σ e) (hi : i < e.length) (hσ : σ.length = e.length) (f : ∀ a, v = .ref a → s.isObj → H0 a = none) : Post H0 ι0 σ0 e0 H ι (σ.set i (some v)) (e.set i (some s)) := by
  have e_i : (e.set i (some s))[i]? = some (some s) := List.getElem?_set_self hi
  have e_j : ∀ j, i ≠ j → (e.set i (some s))[j]? = e[j]? := fun j h => List.getElem?_set_ne h
  have s_i : (σ.set i (some v))[i]? = some (some v) := List.getElem?_set_self (by rw [hσ]; exact hi)
  have s_j : ∀ j, i ≠ j → (σ.set i (some v))[j]? = σ[j]? := fun j h => List.getElem?_set_ne h
  refine ⟨P.pre, P.stay, P.dom, fun b x h1 h2 h3 => ?_⟩
  obtain ⟨q1, q2, q3, q4⟩ := P.keep b x h1 h2 h3
  refine ⟨q1, q2, ?_, fun h => ?_⟩
  · rintro ⟨j, o, h4, h5⟩
    by_cases hij : i = j
    · subst hij
      rw [e_i] at h4; cases h4
      rw [s_i] at h5; cases h5
      rw [f b rfl trivial] at h1; cases h1
    · rw [e_j _ hij] at h4
      rw [s_j _ hij] at h5
      exact q3 ⟨j, o, h4, h5⟩
  · rintro ⟨j, t, h4, h6, h5⟩
    by_cases hij : i = j
    · subst hij
      rw [e_i] at h4; cases h4
      rw [s_i] at h5; cases h5
      rw [f b rfl h6] at h1; cases h1
    · rw [e_j _ hij] at h4
      rw [s_j _ hij] at h5
      exact q4 h ⟨j, t, h4, h6, h5⟩
theorem setS_eq {i : Nat} {r : R} {e : En} {S : Sto} {z} (h : setS i r e S = some z) : ∃ s, toSl r = some s ∧ i < e.length ∧ z = (.nx, e.set i (some s), S) := by
  unfold setS at h
  split at h
  · split at h
    · exact ⟨_, by assumption, by assumption, (Option.some.inj h).symm⟩
    · cases h
  · cases h
/-- a result put in a slot -/
theorem Rel.put {i : Nat} {s : Sl} (R : Rel K H ι σ e S) (P : Post H0 ι0 σ0 e0 H ι σ e) (hr : RR K H ι σ e v r) (f : Fresh H0 v r) (hs : toSl r = some s) (hi : i < e.length) :
    Rel K H ι (σ.set i (some v)) (e.set i (some s)) S ∧ Post H0 ι0 σ0 e0 H ι (σ.set i (some v)) (e.set i (some s)) := by
  cases r with
  | d x =>
    cases hs
    exact ⟨R.setSl hi hr (fun _ z => nomatch z) fun _ _ z => z.elim, P.setSl hi R.len fun _ _ z => z.elim⟩
  | new o =>
    cases hs
    obtain ⟨a, rfl, ro, n1, n2⟩ := hr
    obtain ⟨a', ea, f⟩ := f
    cases ea
    exact ⟨R.setSl hi ⟨a, rfl, ro⟩ (fun _ z => nomatch z) fun _ e _ => by cases e; exact ⟨n1, n2⟩, P.setSl hi R.len fun _ e _ => by cases e; exact f⟩
  | _ => cases hs
end
section
variable {X : Cx} {ex : Expr} {m : M R} {pos pos' : Pos}
theorem gs_set {i : Nat} {x : Str} (hN : X.N.Nodup) (hi : X.N[i]? = some x) (hx : Loc X.env.scope x) (h : GE X ex m) (hs : swapsWith ex (some (.Name x pos')) pos.line X.env = pure false := by rfl) (hf : X.fn x = true ∨ X.env.scope.names.lookup x = some .local := by first | exact .inl rfl | exact .inr rfl | assumption) :
    GS X (.Assign [.Name x pos'] ex pos) (mSet i m) := PS.imp (ps_set hN hi hx h hs hf) fun D σ H q => by
  obtain ⟨ι, e, S, fl, e', S', R, hm, q⟩ := q
  obtain ⟨r, e1, S1, h1, hm⟩ := bnd_eq hm
  obtain ⟨s, hsl, hil, hz⟩ := setS_eq hm
  cases hz
  refine ⟨ι, e, S, r, e1, _, R, h1, fun v H1 ι1 R1 P1 r1 f1 => ?_⟩
  obtain ⟨R2, P2⟩ := R1.put P1 r1 f1 hsl hil
  exact q _ H1 ι1 R2 P2
end

/-! ### bodies of defs -/
def runF (nl : Nat) (body : M Fl) : Fn := fun sls S => match body (sls.map some ++ List.replicate nl none) S with
  | some (.rt r, _, S') => some (r, S')
  | some (.nx, _, S') => some (.d .non, S')
  | _ => none
theorem RSls.length {K : PySem.W.Frag} {H : Hp} {ι : List Addr} {vs : List V} {ss : List Sl} (h : RSls K H ι vs ss) : vs.length = ss.length := by
  induction h with
  | nil => rfl
  | cons _ _ _ _ ih => simp [ih]
theorem RSls.get {K : PySem.W.Frag} {H : Hp} {ι : List Addr} {vs : List V} {ss : List Sl} (h : RSls K H ι vs ss) : ∀ {i : Nat} {s : Sl}, ss[i]? = some s → ∃ v, vs[i]? = some v ∧ RSl K H ι v s ∧ (∀ a, v = .ref a → s.isObj → a ∉ ι) ∧ ¬ s.isOwn := by
  induction h with
  | nil => intro i s e; simp at e
  | cons h1 h2 h3 _ ih =>
    intro i s e
    cases i with
    | zero => simp at e; subst e; exact ⟨_, rfl, h1, h2, h3⟩
    | succ i => exact ih (by simpa using e)
theorem at_start {sls : List Sl} {nl i : Nat} {s : Sl} (h : (sls.map some ++ List.replicate nl none)[i]? = some (some s)) : sls[i]? = some s := by
  by_cases hi : i < sls.length
  · rw [List.getElem?_append_left (by simpa using hi), List.getElem?_map] at h
    cases q : sls[i]? with
    | none => rw [q] at h; cases h
    | some t => rw [q] at h; simpa using h
  · rw [List.getElem?_append_right (by simpa using hi)] at h
    rw [List.getElem?_replicate] at h
    split at h <;> cases h
theorem RelS.start {K : PySem.W.Frag} {H : Hp} {ι : List Addr} {vs : List V} {sls : List Sl} {S : Sto} {N : List Str} (R : RelS K H ι S) (hs : RSls K H ι vs sls) : Rel K H ι (L2.start N vs) (sls.map some ++ List.replicate (N.length - sls.length) none) S := by
  have hl := hs.length
  have hv : ∀ {i : Nat} {v : V}, vs[i]? = some v → (L2.start N vs)[i]? = some (some v) := fun {i v} h => by
    unfold L2.start
    rw [List.getElem?_append_left (by simpa using (List.getElem?_eq_some_iff.mp h).1), List.getElem?_map, h]
    rfl
  refine ⟨by unfold L2.start; simp [hl], fun i s he => ?_, R.ilen, R.st, R.nd, fun i o a h1 h2 => ?_, fun i o a h1 h2 => ?_⟩
  · obtain ⟨v, e1, h1, _⟩ := hs.get (at_start he)
    exact ⟨v, hv e1, h1⟩
  · obtain ⟨v, e1, _, _, h3⟩ := hs.get (at_start h1)
    exact (h3 trivial).elim
  · obtain ⟨v, e1, _, h3, _⟩ := hs.get (at_start h1)
    rw [hv e1] at h2; cases h2
    exact h3 a rfl trivial
theorem no_own {K : PySem.W.Frag} {H : Hp} {ι : List Addr} {vs : List V} {sls : List Sl} {nl : Nat} {σ : SV} (hs : RSls K H ι vs sls) (a : Addr) : ¬ Own σ (sls.map some ++ List.replicate nl none) a := fun ⟨i, o, h1, _⟩ => by
  obtain ⟨v, e1, _, _, h3⟩ := hs.get (at_start h1)
  exact h3 trivial
/-- a def's promise by its body -/
theorem fn_okC {P : Program} {w : World} {K : PySem.W.Frag} {mg : Str → Option Value} {base : Heap} {x qual : Str} {st : Stmt} {f : Addr} {fd : FuncData} {N ps : List Str} {k : Nat} {body : M Fl} {cv : Value} (F : Fun K x qual st f fd) (hcv : fd.code = cv) (Sc : FnScope N ps (defScope st))
    (h : ∀ (A : Around) (outer : List PySem.Env) (s : Shared) (H : Hp) (vs : List V) (Q : VK) (E : XK), Room k (A.deeper (envOfC qual (defScope st) s.heap.objs.size f cv)) → (A.deeper (envOfC qual (defScope st) s.heap.objs.size f cv)).guards = some [] →
      GSs (cxOf CX0 P w K mg base N qual (defScope st) f cv A outer s H E).nox (defBody st) body) :
    FnG P w K mg base (k + 1) f fd ps (spG K ps.length (runF (N.length - ps.length) body)) := by
  refine FnG.of F Sc (fun vs H Q E q => q.1) fun cdv hc A outer s H vs Q E hr hgd q => ?_
  obtain rfl : cv = cdv := hcv.symm.trans hc
  refine ⟨_, h A outer s H vs Q E hr hgd, ?_⟩
  obtain ⟨hl, ι, sls, S, r, S', R, hs, hm, q⟩ := q
  have hl2 := hs.length
  unfold runF at hm
  rw [show ps.length = sls.length by omega] at hm
  have R0 := R.start (N := N) hs
  have fin : ∀ {σ' : SV} {e' : En} {H' : Hp} {ι' : List Addr} {S' : Sto}, Rel K H' ι' σ' e' S' → Post H ι (L2.start N vs) (sls.map some ++ List.replicate (N.length - sls.length) none) H' ι' σ' e' → RelS K H' ι' S' ∧ PostC H ι H' ι' := fun R' P' =>
    ⟨R'.s, P'.pre, P'.stay, P'.dom, fun a o h1 h2 => let ⟨q1, q2, _⟩ := P'.keep a o h1 h2 (no_own hs a); ⟨q1, q2⟩⟩
  split at hm
  · rename_i r0 e' S1 hb
    cases hm
    refine ⟨ι, _, S, _, e', _, R0, hb, fun v σ' H' ι' R' P' r' => ?_⟩
    obtain ⟨Rs, Pc⟩ := fin R' P'
    refine q v H' ι' Rs Pc ?_
    cases r with
    | d x => exact r'
    | new o =>
      obtain ⟨a, rfl, ro, n, nk⟩ := r'
      refine ⟨a, rfl, ro, n, ?_⟩
      cases hq : H a with
      | none => rfl
      | some u =>
        refine (nk u hq (fun hm => ?_) (no_own hs a)).elim
        obtain ⟨l, e⟩ := P'.pre
        exact n (e ▸ List.mem_append_left _ hm)
  · rename_i e' S1 hb
    cases hm
    refine ⟨ι, _, S, _, e', _, R0, hb, fun σ' H' ι' R' P' => ?_⟩
    obtain ⟨Rs, Pc⟩ := fin R' P'
    exact q .non H' ι' Rs Pc .non
  · cases hm
theorem fn_ok {P : Program} {w : World} {K : PySem.W.Frag} {mg : Str → Option Value} {base : Heap} {x qual : Str} {st : Stmt} {f : Addr} {fd : FuncData} {N ps : List Str} {k : Nat} {body : M Fl} (F : Fun K x qual st f fd) (Sc : FnScope N ps (defScope st))
    (h : ∀ (cdv : Value) (A : Around) (outer : List PySem.Env) (s : Shared) (H : Hp) (vs : List V) (Q : VK) (E : XK), Room k (A.deeper (envOfC qual (defScope st) s.heap.objs.size f cdv)) → (A.deeper (envOfC qual (defScope st) s.heap.objs.size f cdv)).guards = some [] →
      GSs (cxOf CX0 P w K mg base N qual (defScope st) f cdv A outer s H E).nox (defBody st) body) :
    FnG P w K mg base (k + 1) f fd ps (spG K ps.length (runF (N.length - ps.length) body)) := fn_okC F rfl Sc (h fd.code)
end G

set_option Elab.async false
set_option linter.all false
set_option maxRecDepth 1000000
set_option maxHeartbeats 2000000
/-! G5: targets, what is walked, loops, comprehensions. -/
namespace G
variable [Wld]
open PySem PySem.Spec PyProof.Rows L2

/-! ### targets -/
def wipeE (e : En) : List Nat → En
  | [] => e
  | v :: vs => (wipeE e vs).set v none
theorem wipe_at {σ : SV} {j : Nat} : ∀ {vs : List Nat}, (wipe σ vs)[j]? = if j ∈ vs ∧ j < σ.length then some none else σ[j]?
  | [] => by simp [wipe]
  | v :: vs => by
    unfold wipe
    by_cases hj : v = j
    · subst hj
      by_cases hl : v < σ.length
      · rw [List.getElem?_set_self (by rw [wipe_length]; exact hl), if_pos ⟨by simp, hl⟩]
      · rw [if_neg (fun h => hl h.2), List.getElem?_eq_none (by rw [List.length_set, wipe_length]; omega), List.getElem?_eq_none (by omega)]
    · rw [List.getElem?_set_ne hj, wipe_at]
      have : (j ∈ vs ∧ j < σ.length) ↔ (j ∈ v :: vs ∧ j < σ.length) := by simp [Ne.symm hj]
      by_cases h : j ∈ vs ∧ j < σ.length
      · rw [if_pos h, if_pos (this.mp h)]
      · rw [if_neg h, if_neg (fun z => h (this.mpr z))]
theorem wipeE_length (e : En) : ∀ vs : List Nat, (wipeE e vs).length = e.length
  | [] => rfl
  | v :: vs => by unfold wipeE; rw [List.length_set, wipeE_length e vs]
theorem wipeE_some {e : En} {i : Nat} {x : Sl} : ∀ {vs : List Nat}, (wipeE e vs)[i]? = some (some x) → e[i]? = some (some x) ∧ i ∉ vs
  | [], h => ⟨h, by simp⟩
  | v :: vs, h => by
    unfold wipeE at h
    by_cases hi : v = i
    · subst hi
      by_cases hv : v < (wipeE e vs).length
      · rw [List.getElem?_set_self hv] at h; cases h
      · rw [List.getElem?_eq_none (by simpa using hv)] at h; cases h
    · rw [List.getElem?_set_ne hi] at h
      obtain ⟨h1, h2⟩ := wipeE_some h
      exact ⟨h1, by simp only [List.mem_cons, not_or]; exact ⟨fun e => hi e.symm, h2⟩⟩
theorem wipe_set {σ : SV} {i : Nat} {x : Option V} {vs : List Nat} (h : i ∈ vs) : wipe (σ.set i x) vs = wipe σ vs := by
  apply List.ext_getElem?
  intro j
  rw [wipe_at, wipe_at, List.length_set]
  by_cases hj : j ∈ vs ∧ j < σ.length
  · rw [if_pos hj, if_pos hj]
  · rw [if_neg hj, if_neg hj]
    by_cases hij : i = j
    · subst hij
      have : ¬ i < σ.length := fun z => hj ⟨h, z⟩
      rw [List.getElem?_eq_none (by rw [List.length_set]; omega), List.getElem?_eq_none (by omega)]
    · rw [List.getElem?_set_ne hij]
abbrev Tgt := D → En → Option En
abbrev Tgts := List D → En → Option En
def tGG (K : PySem.W.Frag) (vs : List Nat) (t : Tgt) : TG := fun v σ H Q => ∃ ι e S d e', Rel K H ι σ e S ∧ RD K H ι v d ∧ t d e = some e' ∧
  ∀ σ', Rel K H ι σ' e' S → Post H ι σ e H ι σ' e' → wipe σ' vs = wipe σ vs → Q σ' H
def tGGs (K : PySem.W.Frag) (vs : List Nat) (t : Tgts) : TGs := fun xs σ H Q => ∃ ι e S ds e', Rel K H ι σ e S ∧ RDs K H ι xs ds ∧ t ds e = some e' ∧
  ∀ σ', Rel K H ι σ' e' S → Post H ι σ e H ι σ' e' → wipe σ' vs = wipe σ vs → Q σ' H
abbrev GG (X : Cx) (vs : List Nat) (ex : Expr) (t : Tgt) : Prop := PG X ex (tGG X.K vs t)
abbrev GGs (X : Cx) (vs : List Nat) (es : List Expr) (t : Tgts) : Prop := PGs X es (tGGs X.K vs t)
theorem PG.imp {X : Cx} {ex : Expr} {t t' : TG} (h : PG X ex t) (w : ∀ v σ H Q, t' v σ H Q → t v σ H Q) : PG X ex t' := ⟨fun pins s σ H v u Q I r q => h.run pins s σ H v u Q I r (w v σ H Q q)⟩
theorem PGs.imp {X : Cx} {es : List Expr} {t t' : TGs} (h : PGs X es t) (w : ∀ v σ H Q, t' v σ H Q → t v σ H Q) : PGs X es t' := ⟨fun pins s σ H v u Q I r q => h.run pins s σ H v u Q I r (w v σ H Q q)⟩
def gtName (i : Nat) : Tgt := fun d e => if i < e.length then some (e.set i (some (.d d))) else none
def gtNil : Tgts := fun ds e => match ds with
  | [] => some e
  | _ => none
def gtCons (t : Tgt) (ts : Tgts) : Tgts := fun ds e => match ds with
  | d :: r => (t d e).bind fun e1 => ts r e1
  | [] => none
def gtTup (n : Nat) (ts : Tgts) : Tgt := fun d e => match d with
  | .tup ds => if ds.length = n then ts ds e else none
  | _ => none
section
variable {X : Cx} {vs : List Nat} {ex : Expr} {es : List Expr} {t : Tgt} {ts : Tgts} {pos : Pos}
theorem gg_name {i : Nat} {x : Str} (hN : X.N.Nodup) (hi : X.N[i]? = some x) (hx : Loc X.env.scope x) (hv : i ∈ vs := by decide) (hf : X.fn x = true ∨ X.env.scope.names.lookup x = some .local := by first | exact .inl rfl | exact .inr rfl | assumption) : GG X vs (.Name x pos) (gtName i) :=
  PG.imp (pg_name hN hi hx hf) fun v σ H Q q => by
    obtain ⟨ι, e, S, d, e', R, rd, ht, q⟩ := q
    unfold gtName at ht
    split at ht
    · cases ht
      rename_i hl
      exact q _ (R.setSl hl rd (fun _ z => nomatch z) fun _ _ z => z.elim) (Post.refl.setSl hl R.len fun _ _ z => z.elim) (wipe_set hv)
    · cases ht
theorem ggs_nil : GGs X vs [] gtNil := PGs.imp pgs_nil fun xs σ H Q q => by
  obtain ⟨ι, e, S, ds, e', R, rd, ht, q⟩ := q
  cases ds with
  | nil => cases ht; cases rd; exact ⟨rfl, q σ R .refl rfl⟩
  | cons _ _ => cases ht
theorem ggs_cons (h1 : GG X vs ex t) (h2 : GGs X vs es ts) (hs : (assignEach (ex :: es) X.env).map (·.2) = assign ex X.env :: (assignEach es X.env).map (·.2) := by rfl) : GGs X vs (ex :: es) (gtCons t ts) := PGs.imp (pgs_cons h1 h2 hs) fun xs σ H Q q => by
  obtain ⟨ι, e, S, ds, e', R, rd, ht, q⟩ := q
  cases rd with
  | nil => cases ht
  | cons r1 r2 =>
    obtain ⟨e1, h1, h2⟩ := Option.bind_eq_some_iff.mp (show (t _ e).bind (fun e1 => ts _ e1) = some e' from ht)
    exact ⟨_, _, rfl, ι, e, S, _, e1, R, r1, h1, fun σ1 R1 P1 w1 => ⟨ι, e1, S, _, e', R1, r2, h2, fun σ2 R2 P2 w2 => q σ2 R2 (P1.trans P2) (w2.trans w1)⟩⟩
theorem gg_tup {k n : Nat} (hc : X.calm = true) (h : GGs X vs es ts) (hn : (assignEach es X.env).length = n := by rfl) (hst : (assignEach es X.env).findIdx? (·.1) = none := by rfl) : GG X vs (.Tuple es k pos) (gtTup n ts) :=
  PG.imp (pg_tup hc h hn hst) fun v σ H Q q => by
    obtain ⟨ι, e, S, d, e', R, rd, ht, q⟩ := q
    cases d with
    | tup ds =>
      cases rd with
      | tup h1 h2 =>
        have ht' : (if ds.length = n then ts ds e else none) = some e' := ht
        split at ht'
        · exact ⟨_, _, rfl, h1, by rw [h2.length]; assumption, ι, e, S, ds, e', R, h2, ht', q⟩
        · cases ht'
    | _ => cases ht
/-- a, b, .. = e -/
def mAsg (t : Tgt) (m : M R) : M Fl := bnd m fun r e S => match r with
  | .d x => (t x e).map fun e' => (.nx, e', S)
  | _ => none
theorem gs_asg {tg : Expr} {m : M R} (he : GE X ex m) (hg : GG X vs tg t) (hs : swapsWithSole [tg] ex pos.line X.env = pure false := by rfl) (hw : swappedStores [tg] ex X.env = pure none := by rfl)
    (h1 : (assignEach [tg] X.env).map (·.2) = [assign tg X.env] := by rfl) : GS X (.Assign [tg] ex pos) (mAsg t m) := PS.imp (ps_asg he hg hs hw h1) fun D σ H q => by
  obtain ⟨ι, e, S, fl, e', S', R, hm, q⟩ := q
  obtain ⟨r, e1, S1, h1, hm⟩ := bnd_eq hm
  refine ⟨ι, e, S, r, e1, S1, R, h1, fun v H1 ι1 R1 P1 r1 f1 => ?_⟩
  cases r with
  | d x =>
    obtain ⟨e2, h2, h3⟩ := Option.map_eq_some_iff.mp (show (t x e1).map (fun e' => (Fl.nx, e', S1)) = some (fl, e', S') from hm)
    cases h3
    exact ⟨ι1, e1, S', x, _, R1, r1, h2, fun σ2 R2 P2 _ => q σ2 H1 ι1 R2 (P1.trans P2)⟩
  | _ => cases hm
/-- a, b = x, y with plain local names -/
def mPar (i j : Nat) (ms : M (List R)) : M Fl := bnd ms fun rs e S => match dsOf rs with
  | some [x, y] => if i < e.length ∧ j < e.length then some (.nx, (e.set i (some (.d x))).set j (some (.d y)), S) else none
  | _ => none
end

/-! ### what is walked -/
structure Src where
  items : List D
  ws : List (R × List D)
def Wat (ws : List (R × List D)) (e : En) (S : Sto) : Prop := ∀ p ∈ ws, look p.1 e S = some (.lst p.2)
def Feeds (K : PySem.W.Frag) (src : Src) (J : It) (H1 : Hp) (ι1 : List Addr) (σ1 : SV) (e1 : En) : Prop :=
  ∀ i H ι σ e S, Rel K H ι σ e S → Post H1 ι1 σ1 e1 H ι σ e → Wat src.ws e S → (∀ p ∈ src.ws, ∀ j, p.1 = .loc j → σ[j]? = σ1[j]?) →
    (∀ d, src.items[i]? = some d → J.go i H ∧ ∀ x H', J.yld i H x H' → Rel K H' ι σ e S ∧ Post H ι σ e H' ι σ e ∧ RD K H' ι x d ∧ ∀ b o, H b = some o → H' b = some o) ∧ (src.items.length ≤ i → J.stop i H)
def tGI (K : PySem.W.Frag) (m : M Src) : TI := fun σ H Rr => ∃ ι e S src e' S', Rel K H ι σ e S ∧ m e S = some (src, e', S') ∧
  ∀ J H' ι', Rel K H' ι' σ e' S' → Post H ι σ e H' ι' σ e' → Feeds K src J H' ι' σ e' → src.items.length ≤ sizeLine → Rr J H'
abbrev GI (X : Cx) (tg ex : Expr) (m : M Src) : Prop := PI X tg ex (tGI X.K m)
theorem PI.imp {X : Cx} {tg ex : Expr} {t t' : TI} (h : PI X tg ex t) (w : ∀ σ H Q, t' σ H Q → t σ H Q) : PI X tg ex t' := ⟨fun pins s σ H Q I q => h.run pins s σ H Q I (w σ H Q q)⟩
theorem PI.or {X : Cx} {tg ex : Expr} {t t' : TI} (h : PI X tg ex t) (h' : PI X tg ex t') : PI X tg ex (fun σ H R => t σ H R ∨ t' σ H R) := ⟨fun pins s σ H Q I q => q.elim (h.run pins s σ H Q I) (h'.run pins s σ H Q I)⟩
/-- lists and tuples that are there are not too long -/
def Bd (K : PySem.W.Frag) (H : Hp) : Prop := ∀ a xs, SqL K H a xs ∨ SqT K H a xs → xs.length ≤ sizeLine
theorem Inv.bd {X : Cx} {pins σ H s} (I : Inv X pins σ H s) : Bd X.K H := fun a xs h => by
  rcases h with h | h
  · obtain ⟨_, _, _, z⟩ := I.list h; exact z
  · obtain ⟨_, _, _, z⟩ := I.tuple h; exact z
theorem PI.bd {X : Cx} {tg ex : Expr} {t : TI} (h : PI X tg ex t) : PI X tg ex (fun σ H R => t σ H fun J H1 => Bd X.K H1 → R J H1) := ⟨fun pins s σ H Q I q =>
  thn (h.run pins s σ H _ I q) fun v s1 h1 => thn h1 fun itv s2 ⟨it, fp, tn, J, H', e, I', T, st, f, r⟩ => ⟨it, fp, tn, J, H', e, I', T, st, f, r (Inv.bd I')⟩⟩
/-- the items of a list or a tuple -/
def srcOf (r : R) : M Src := fun e S => match r with
  | .d (.tup ds) => some (⟨ds, []⟩, e, S)
  | .d (.lst ds) => some (⟨ds, []⟩, e, S)
  | .new (.lst ds) => some (⟨ds, []⟩, e, S)
  | .brw (.lst ds) => some (⟨ds, []⟩, e, S)
  | r => match look r e S with
    | some (.lst ds) => some (⟨ds, [(r, ds)]⟩, e, S)
    | _ => none
def mSrc (m : M R) : M Src := bnd m srcOf
theorem feeds_tup {K : PySem.W.Frag} {H1 : Hp} {ι1 : List Addr} {σ1 : SV} {e1 : En} {a : Addr} {xs : List V} {ds : List D} (h : SqT K H1 a xs) (rd : RDs K H1 ι1 xs ds) : Feeds K ⟨ds, []⟩ (Itt K a) H1 ι1 σ1 e1 := fun i H ι σ e S R P _ _ => by
  have h' := stay_t P.stay h
  have rd' := RDs.mono P.stay P.pre _ _ rd
  refine ⟨fun d hd => ?_, fun hl => ⟨xs, h', by rw [rd.length]; exact hl⟩⟩
  obtain ⟨v, hv, rv⟩ := rd'.get hd
  exact ⟨⟨xs, v, h', hv⟩, fun x H' hy => by
    obtain ⟨rfl, hy⟩ := hy
    have := hy xs h'
    rw [hv] at this; cases this
    exact ⟨R, .refl, rv, fun _ _ h => h⟩⟩
theorem feeds_lst {K : PySem.W.Frag} {H1 : Hp} {ι1 : List Addr} {σ1 : SV} {e1 : En} {a : Addr} {ds : List D} {ws : List (R × List D)}
    (h : ∀ H ι σ e S, Rel K H ι σ e S → Post H1 ι1 σ1 e1 H ι σ e → Wat ws e S → (∀ p ∈ ws, ∀ j, p.1 = .loc j → σ[j]? = σ1[j]?) → ∃ xs, SqL K H a xs ∧ RDs K H ι xs ds) : Feeds K ⟨ds, ws⟩ (Itl K a) H1 ι1 σ1 e1 := fun i H ι σ e S R P w1 w2 => by
  obtain ⟨xs, h', rd'⟩ := h H ι σ e S R P w1 w2
  refine ⟨fun d hd => ?_, fun hl => ⟨xs, h', by rw [rd'.length]; exact hl⟩⟩
  obtain ⟨v, hv, rv⟩ := rd'.get hd
  exact ⟨⟨xs, v, h', hv⟩, fun x H' hy => by
    obtain ⟨rfl, hy⟩ := hy
    have := hy xs h'
    rw [hv] at this; cases this
    exact ⟨R, .refl, rv, fun _ _ h => h⟩⟩
/-- a list that nobody here writes stays -/
theorem Post.list {K : PySem.W.Frag} {H H' : Hp} {ι ι' : List Addr} {σ σ' : SV} {e e' : En} {a : Addr} {ds : List D} (P : Post H ι σ e H' ι' σ' e') (ro : RO K H ι a (.lst ds)) (h1 : a ∉ ι) (h2 : ¬ Own σ e a) : ∃ xs, SqL K H' a xs ∧ RDs K H' ι' xs ds := by
  obtain ⟨xs, hx, rd⟩ := ro
  exact ⟨xs, .inl (.inl (P.keep a _ hx h1 h2).1), RDs.mono P.stay P.pre _ _ rd⟩
theorem gi_seq {X : Cx} {tg ex : Expr} {m : M R} (h : GE X ex m) : GI X tg ex (mSrc m) := PI.imp (PI.bd (PI.or (pi_list h) (pi_tup h))) fun σ H Q q => by
  obtain ⟨ι, e, S, src, e', S', R, hm, q⟩ := q
  obtain ⟨r, e1, S1, h1, hm⟩ := bnd_eq hm
  by_cases ht : ∃ ds, r = .d (.tup ds)
  · obtain ⟨ds, rfl⟩ := ht
    cases hm
    refine .inr ⟨ι, e, S, _, _, _, R, h1, fun v H1 ι1 R1 P1 r1 f1 => ?_⟩
    cases r1 with
    | tup g1 g2 => exact ⟨_, rfl, ⟨_, g1.sq⟩, fun bd => q _ H1 ι1 R1 P1 (feeds_tup g1.sq g2) (by rw [← g2.length]; exact bd _ _ (.inr g1.sq))⟩
  · refine .inl ⟨ι, e, S, r, e1, S1, R, h1, fun v H1 ι1 R1 P1 r1 f1 => ?_⟩
    have fin : ∀ {a ds ws}, v = .ref a → src = ⟨ds, ws⟩ → e1 = e' → S1 = S' → (∃ xs, SqL X.K H1 a xs ∧ RDs X.K H1 ι1 xs ds) → Feeds X.K ⟨ds, ws⟩ (Itl X.K a) H1 ι1 σ e1 →
        ∃ a, v = .ref a ∧ (∃ xs, SqL X.K H1 a xs) ∧ (Bd X.K H1 → Q (Itl X.K a) H1) := fun {a ds ws} ev es ee eS hx hf => by
      subst ev es ee eS
      obtain ⟨xs, g1, g2⟩ := hx
      exact ⟨_, rfl, ⟨_, g1⟩, fun bd => q _ H1 ι1 R1 P1 hf (by show ds.length ≤ _; rw [← g2.length]; exact bd _ _ (.inl g1))⟩
    unfold srcOf at hm
    split at hm
    · exact (ht ⟨_, rfl⟩).elim
    · cases hm
      cases r1 with
      | lst g1 g2 => exact fin rfl rfl rfl rfl ⟨_, g1.sq, g2⟩ (feeds_lst fun H2 ι2 σ2 e2 S2 R2 P2 _ _ => ⟨_, (stay_l P2.stay g1).sq, RDs.mono P2.stay P2.pre _ _ g2⟩)
    · cases hm
      obtain ⟨a, rfl, ro, n1, n2⟩ := r1
      exact fin rfl rfl rfl rfl (Post.refl.list ro n1 fun z => n2 (.of z)) (feeds_lst fun H2 ι2 σ2 e2 S2 R2 P2 _ _ => P2.list ro n1 fun z => n2 (.of z))
    · cases hm
      obtain ⟨a, rfl, ro, n1, n2⟩ := r1
      exact fin rfl rfl rfl rfl (Post.refl.list ro n1 n2) (feeds_lst fun H2 ι2 σ2 e2 S2 R2 P2 _ _ => P2.list ro n1 n2)
    · split at hm
      · rename_i hlk
        cases hm
        obtain ⟨a, xs, rfl, g1, g2⟩ := R1.lookL r1 hlk
        refine fin rfl rfl rfl rfl ⟨xs, g1, g2⟩ (feeds_lst fun H2 ι2 σ2 e2 S2 R2 P2 w1 w2 => ?_)
        have hl2 := w1 _ (List.mem_singleton.mpr rfl)
        have r2 : RR X.K H2 ι2 σ2 e2 (.ref a) r := by
          cases r with
          | d x => exact RD.mono P2.stay P2.pre _ _ r1
          | lm i cs => cases hlk
          | loc j =>
            have : σ2[j]? = σ[j]? := w2 _ (List.mem_singleton.mpr rfl) j rfl
            show σ2[j]? = _
            rw [this]
            exact r1
          | new o =>
            obtain ⟨a', ea, ro, n1, n2⟩ := r1
            cases ea
            cases o with
            | lst ds => rename_i z _; exact (z ds rfl).elim
            | dct kvs => cases hlk
            | kd kvs => cases hlk
            | tab q => cases hlk
            | ins _ _ _ => cases hlk
            | kx _ => cases hlk
          | brw o =>
            obtain ⟨a', ea, ro, n1, n2⟩ := r1
            cases ea
            cases o with
            | lst ds => rename_i z; exact (z ds rfl).elim
            | dct kvs => cases hlk
            | kd kvs => cases hlk
            | tab q => cases hlk
            | ins _ _ _ => cases hlk
            | kx _ => cases hlk
        obtain ⟨a', xs', ea, g3, g4⟩ := R2.lookL r2 hl2
        cases ea
        exact ⟨xs', g3, g4⟩
      · cases hm
end G

set_option Elab.async false
set_option linter.all false
set_option maxRecDepth 1000000
set_option maxHeartbeats 2000000
/-! G6: for, while, list comprehensions. -/
namespace G
variable [Wld]
open PySem PySem.Spec PyProof.Rows L2
open Classical in
noncomputable def wat (ws : List (R × List D)) (e : En) (S : Sto) : Bool := decide (Wat ws e S)
open Classical in
theorem wat_nil (e : En) (S : Sto) : wat [] e S = true := by unfold wat; exact decide_eq_true (fun _ h => nomatch h)
open Classical in
theorem wat_one {r : R} {ds : List D} {e : En} {S : Sto} (h : look r e S = some (.lst ds)) : wat [(r, ds)] e S = true := by
  unfold wat; exact decide_eq_true fun p hp => by cases List.mem_singleton.mp hp; exact h
open Classical in
theorem of_wat {ws : List (R × List D)} {e : En} {S : Sto} (h : wat ws e S = true) : Wat ws e S := by unfold wat at h; exact of_decide_eq_true h
def isRef : R → Bool
  | .d (.ref _) => true
  | _ => false

/-! ### for -/
noncomputable def forL (t : Tgt) (body : M Fl) (ws : List (R × List D)) : List D → M Fl
  | [] => fun e S => if wat ws e S then some (.nx, e, S) else none
  | d :: ds => fun e S => if wat ws e S then (match t d e with
    | some e1 => match body e1 S with
      | some (.nx, e2, S2) => forL t body ws ds e2 S2
      | some (.ct, e2, S2) => forL t body ws ds e2 S2
      | some (.bk, e2, S2) => some (.nx, e2, S2)
      | some (.rt r, e2, S2) => some (.rt r, e2, S2)
      | none => none
    | none => none) else none
noncomputable def mFor (t : Tgt) (mi : M Src) (body : M Fl) : M Fl := bnd mi fun src => if (src.ws.all fun p => isRef p.1) then forL t body src.ws src.items else stk
section
variable {X : Cx}
theorem gs_for {tg iter : Expr} {body : List Stmt} {mi : M Src} {vs : List Nat} {t : Tgt} {mb : M Fl} {pos : Pos} (hp : PassesOwn (model X.prog X.w) X.A X.env X.xe) (hc : X.calm = true) (hi : GI X tg iter mi) (hg : GG X vs tg t) (hb : GSs X body mb)
    (hs : ∀ x, foldedSetIterable iter X.env x = pure x := by intro _; rfl) : GS X (.For tg iter body [] pos) (mFor t mi mb) := PS.imp (ps_for hp hc hi hg hb hs) fun D σ H q => by
  obtain ⟨ι, e, S, fl, e', S', R, hm, q⟩ := q
  obtain ⟨src, e1, S1, h1, hm⟩ := bnd_eq hm
  refine ⟨ι, e, S, src, e1, S1, R, h1, fun J H1 ι1 R1 P1 fd hz => ?_⟩
  split at hm
  case isFalse => cases hm
  rename_i hall
  have noloc : ∀ p ∈ src.ws, ∀ j, p.1 = .loc j → False := fun p hp j hj => by
    have := List.all_eq_true.mp hall p hp
    rw [hj] at this; cases this
  refine ⟨fun i m σ' H' => m = src.items.length - i ∧ i ≤ src.items.length ∧ ∃ ι2 e2 S2, Rel X.K H' ι2 σ' e2 S2 ∧ Post H1 ι1 σ e1 H' ι2 σ' e2 ∧ forL t mb src.ws (src.items.drop i) e2 S2 = some (fl, e', S'),
    ⟨_, rfl, Nat.zero_le _, ι1, e1, S1, R1, .refl, by simpa using hm⟩, ?_⟩
  rintro i m σ2 H2 ⟨rfl, hi, ι2, e2, S2, R2, P2, hf⟩
  by_cases hlt : i < src.items.length
  · rw [List.drop_eq_getElem_cons hlt] at hf
    unfold forL at hf
    split at hf
    case isFalse => cases hf
    rename_i hw
    split at hf
    case h_2 => cases hf
    rename_i e3 ht
    obtain ⟨go, yld⟩ := (fd i H2 ι2 σ2 e2 S2 R2 P2 (of_wat hw) fun p hp j hj => (noloc p hp j hj).elim).1 _ (List.getElem?_eq_getElem hlt)
    refine .inr ⟨go, fun σ' H' => ∃ ι4 e4 S4, Rel X.K H' ι4 σ' e4 S4 ∧ Post H1 ι1 σ e1 H' ι4 σ' e4 ∧ forL t mb src.ws (src.items.drop (i + 1)) e4 S4 = some (fl, e', S'), fun σ' H' h => ⟨src.items.length - (i + 1), by omega, rfl, hlt, h⟩, fun x H3 hy => ?_⟩
    obtain ⟨R3, P3, rd, _⟩ := yld x H3 hy
    refine ⟨ι2, e2, S2, _, e3, R3, rd, ht, fun σ3 R4 P4 _ => ?_⟩
    have PA := (P2.trans P3).trans P4
    split at hf
    · rename_i e5 S5 hb
      exact ⟨ι2, e3, S2, .nx, e5, S5, R4, hb, fun σ5 H5 ι5 R5 P5 => ⟨ι5, e5, S5, R5, PA.trans P5, hf⟩⟩
    · rename_i e5 S5 hb
      exact ⟨ι2, e3, S2, .ct, e5, S5, R4, hb, fun σ5 H5 ι5 R5 P5 => ⟨ι5, e5, S5, R5, PA.trans P5, hf⟩⟩
    · rename_i e5 S5 hb
      cases hf
      exact ⟨ι2, e3, S2, .bk, _, _, R4, hb, fun σ5 H5 ι5 R5 P5 => q σ5 H5 ι5 R5 (P1.trans (PA.trans P5))⟩
    · rename_i r e5 S5 hb
      cases hf
      exact ⟨ι2, e3, S2, .rt r, _, _, R4, hb, fun v σ5 H5 ι5 R5 P5 r5 => q v σ5 H5 ι5 R5 (P1.trans (PA.trans P5)) (r5.back (P1.trans PA))⟩
    · cases hf
  · have ei : i = src.items.length := by omega
    subst ei
    rw [List.drop_length] at hf
    unfold forL at hf
    split at hf
    case isFalse => cases hf
    rename_i hw
    cases hf
    exact .inl ⟨(fd _ H2 ι2 σ2 _ _ R2 P2 (of_wat hw) fun p hp j hj => (noloc p hp j hj).elim).2 (Nat.le_refl _), q σ2 H2 ι2 R2 (P1.trans P2)⟩

/-! ### while -/
def whileL (c : M Bool) (body : M Fl) : Nat → M Fl
  | 0 => stk
  | n + 1 => fun e S => match c e S with
    | some (true, e1, S1) => (match body e1 S1 with
      | some (.nx, e2, S2) => whileL c body n e2 S2
      | some (.ct, e2, S2) => whileL c body n e2 S2
      | some (.bk, e2, S2) => some (.nx, e2, S2)
      | some (.rt r, e2, S2) => some (.rt r, e2, S2)
      | none => none)
    | some (false, e1, S1) => some (.nx, e1, S1)
    | none => none
end

/-! ### list comprehensions -/
noncomputable def compL (vs : List Nat) (t : Tgt) (c : M Bool) (elt : M R) (ws : List (R × List D)) : List D → M (List D)
  | [] => fun e S => if wat ws e S then some ([], e, S) else none
  | d :: ds => fun e S => if wat ws e S then (match t d e with
    | some e1 => match c e1 S with
      | some (true, e2, S2) => (match elt e2 S2 with
        | some (.d y, e3, S3) => (match compL vs t c elt ws ds (wipeE e3 vs) S3 with
          | some (ys, e4, S4) => some (y :: ys, e4, S4)
          | none => none)
        | _ => none)
      | some (false, e2, S2) => compL vs t c elt ws ds (wipeE e2 vs) S2
      | none => none
    | none => none) else none
noncomputable def mLc (vs : List Nat) (t : Tgt) (mi : M Src) (c : M Bool) (elt : M R) : M R := bnd mi fun src => bnd (fun e S => compL vs t c elt src.ws src.items (wipeE e vs) S) fun ys => pur (.new (.lst ys))
section
variable {K : PySem.W.Frag} {H : Hp} {ι : List Addr} {σ : SV} {e : En} {S : Sto} {vs : List Nat}
theorem Rel.wipe (R : Rel K H ι σ e S) (vs : List Nat) : Rel K H ι (L2.wipe σ vs) (wipeE e vs) S ∧ Post H ι σ e H ι (L2.wipe σ vs) (wipeE e vs) := by
  have back : ∀ {i : Nat} {v : V}, (L2.wipe σ vs)[i]? = some (some v) → σ[i]? = some (some v) := fun h => (wipe_some h).1
  refine ⟨⟨by rw [wipe_length, wipeE_length]; exact R.len, fun i s he => ?_, R.ilen, R.st, R.nd, fun i o a h1 h2 => ?_, fun i o a h1 h2 => R.brw i o a (wipeE_some h1).1 (back h2)⟩, ⟨⟨[], by simp⟩, .refl _, fun a o h => ⟨o, h⟩, fun b x h1 h2 h3 => ⟨h1, h2, ?_, fun h => ?_⟩⟩⟩
  · obtain ⟨h1, h2⟩ := wipeE_some he
    obtain ⟨v, hv, hs⟩ := R.sl i s h1
    exact ⟨v, by rw [wipe_at, if_neg (fun z => h2 z.1)]; exact hv, hs⟩
  · obtain ⟨q1, q2⟩ := R.own i o a (wipeE_some h1).1 (back h2)
    exact ⟨q1, fun j s b hj h3 h4 h5 => q2 j s b hj (wipeE_some h3).1 h4 (back h5)⟩
  · rintro ⟨i, o, h4, h5⟩
    exact h3 ⟨i, o, (wipeE_some h4).1, back h5⟩
  · rintro ⟨i, s, h4, h6, h5⟩
    exact h ⟨i, s, (wipeE_some h4).1, h6, back h5⟩
/-- back from a block: what the block left of the slots stands in the def's -/
theorem Rel.unwipe (R : Rel K H ι (L2.wipe σ vs) e S) (hl : σ.length = e.length) (hw : ∀ i ∈ vs, ∀ s, e[i]? ≠ some (some s)) : Rel K H ι σ e S := by
  have fwd : ∀ {i : Nat} {s : Sl} {v : V}, e[i]? = some (some s) → (σ[i]? = some (some v) ↔ (L2.wipe σ vs)[i]? = some (some v)) := fun {i s v} h => by
    rw [wipe_at, if_neg (fun z => hw i z.1 s h)]
  refine ⟨hl, fun i s he => ?_, R.ilen, R.st, R.nd, fun i o a h1 h2 => ?_, fun i o a h1 h2 => R.brw i o a h1 ((fwd h1).mp h2)⟩
  · obtain ⟨v, hv, hs⟩ := R.sl i s he
    exact ⟨v, (fwd he).mpr hv, hs⟩
  · obtain ⟨q1, q2⟩ := R.own i o a h1 ((fwd h1).mp h2)
    exact ⟨q1, fun j s b hj h3 h4 h5 => q2 j s b hj h3 h4 ((fwd h3).mp h5)⟩
end
theorem wipeE_none {e : En} {vs : List Nat} {i : Nat} {s : Sl} (h : i ∈ vs) : (wipeE e vs)[i]? ≠ some (some s) := fun z => (wipeE_some z).2 h
theorem wipe_wipe (σ : SV) (vs : List Nat) : L2.wipe (L2.wipe σ vs) vs = L2.wipe σ vs := by
  apply List.ext_getElem?
  intro j
  rw [wipe_at, wipe_length, wipe_at]
  by_cases hj : j ∈ vs ∧ j < σ.length
  · rw [if_pos hj, if_pos hj]
  · rw [if_neg hj]
structure GTs (X : Cx) (ifs : List Expr) (m : M Bool) : Prop where
  h : PTs X ifs (tGT X.K m)
theorem gts_nil {X : Cx} : GTs X [] (pur true) := ⟨⟨fun pins s σ H Q I q => pts_nil.run pins s σ H Q I (tGT_pur q)⟩⟩
theorem gts_one {X : Cx} {c : Expr} {m : M Bool} (h : GT X c m) : GTs X [c] m := ⟨pts_one h⟩
theorem compL_env {vs : List Nat} {t : Tgt} {c : M Bool} {elt : M R} {ws : List (R × List D)} : ∀ {ds : List D} {e : En} {S : Sto} {z}, compL vs t c elt ws ds e S = some z → (∀ i ∈ vs, ∀ s, e[i]? ≠ some (some s)) → ∀ i ∈ vs, ∀ s, z.2.1[i]? ≠ some (some s)
  | [], e, S, z, h, hw => by
    unfold compL at h
    split at h
    · cases h; exact hw
    · cases h
  | d :: ds, e, S, z, h, hw => by
    unfold compL at h
    split at h
    case isFalse => cases h
    split at h
    case h_2 => cases h
    split at h
    · split at h
      · split at h
        · rename_i hh
          cases h
          exact fun i hi s => (compL_env hh (fun i hi s => wipeE_none hi) i hi s)
        · cases h
      · cases h
    · exact compL_env h fun i hi s => wipeE_none hi
    · cases h
theorem tLc_of {K : PySem.W.Frag} {mi : M Src} {vs : List Nat} {t : Tgt} {mc : M Bool} {me : M R} {σ : SV} {H : Hp} {Q : VK} (q : tG K (mLc vs t mi mc me) σ H Q) : tLc (tGI K mi) (tGG K vs t) (tGT K mc) (tG K me) vs σ H Q := by
  obtain ⟨ι, e, S, r, e', S', R, hm, q⟩ := q
  obtain ⟨src, e1, S1, h1, hm⟩ := bnd_eq hm
  obtain ⟨ys, e2, S2, h2, hm⟩ := bnd_eq hm
  cases hm
  refine ⟨ι, e, S, src, e1, S1, R, h1, fun J H1 ι1 R1 P1 fd hz => fun Da hD => ?_⟩
  have hend := compL_env h2 fun i hi s => wipeE_none hi
  obtain ⟨R2, P2, nD1, nD2⟩ := R1.new (u := .lst []) hD
  obtain ⟨R3, P3⟩ := R2.wipe vs
  have P3' := P2.trans P3
  -- the list's own place is no slot's, none of the store's
  have nD3 : ¬ L2.wipe σ vs = [] ∨ True := .inr trivial
  refine ⟨fun i m H' => m = src.items.length - i ∧ i ≤ src.items.length ∧ ∃ ι4 e4 S4 acc xs zs, Rel K H' ι4 (L2.wipe σ vs) e4 S4 ∧ Post H1 ι1 σ e1 H' ι4 (L2.wipe σ vs) e4 ∧ H' Da = some (.lst xs) ∧ RDs K H' ι4 xs acc ∧ Da ∉ ι4 ∧ ¬ Obj (L2.wipe σ vs) e4 Da ∧
      acc.length ≤ i ∧ compL vs t mc me src.ws (src.items.drop i) e4 S4 = some (zs, e', S') ∧ ys = acc ++ zs ∧ (∀ i ∈ vs, ∀ s, e4[i]? ≠ some (some s)) ∧ e4.length = e1.length,
    ⟨_, rfl, Nat.zero_le _, ι1, wipeE e1 vs, S1, [], [], ys, R3, P3', upd_same, .nil, nD1, fun ⟨i, s, z1, z2, z3⟩ => nD2 ⟨i, s, (wipeE_some z1).1, z2, (wipe_some z3).1⟩, Nat.le_refl _, by simpa using h2, rfl, fun i hi s => wipeE_none hi, wipeE_length _ _⟩, ?_⟩
  rintro i m H4 ⟨rfl, hi, ι4, e4, S4, acc, xs, zs, R4, P4, hD4, rd4, n1, n2, hacc, hc, rfl, hw4, hlen4⟩
  have hσe : (L2.wipe σ vs).length = e4.length := R4.len
  have hlen : σ.length = e4.length := by rw [← hσe, wipe_length]
  by_cases hlt : i < src.items.length
  · rw [List.drop_eq_getElem_cons hlt] at hc
    unfold compL at hc
    split at hc
    case isFalse => cases hc
    rename_i hwat
    split at hc
    case h_2 => cases hc
    rename_i e5 ht
    have wl : ∀ p ∈ src.ws, ∀ j, p.1 = .loc j → (L2.wipe σ vs)[j]? = σ[j]? := fun p hp j hj => by
      have z := of_wat hwat p hp
      rw [hj] at z
      have z' : (match e4[j]? with
        | some (some (.own o)) => some o
        | _ => none) = some (O.lst p.2) := z
      split at z'
      · rename_i hh
        rw [wipe_at, if_neg (fun zz => hw4 j zz.1 _ hh)]
      · cases z'
    obtain ⟨go, yld⟩ := (fd i H4 ι4 _ e4 S4 R4 P4 (of_wat hwat) wl).1 _ (List.getElem?_eq_getElem hlt)
    refine .inr ⟨go, fun H' => ∃ ι9 e9 S9 acc9 xs9 zs9, Rel K H' ι9 (L2.wipe σ vs) e9 S9 ∧ Post H1 ι1 σ e1 H' ι9 (L2.wipe σ vs) e9 ∧ H' Da = some (.lst xs9) ∧ RDs K H' ι9 xs9 acc9 ∧ Da ∉ ι9 ∧ ¬ Obj (L2.wipe σ vs) e9 Da ∧
      acc9.length ≤ i + 1 ∧ compL vs t mc me src.ws (src.items.drop (i + 1)) e9 S9 = some (zs9, e', S') ∧ acc ++ zs = acc9 ++ zs9 ∧ (∀ i ∈ vs, ∀ s, e9[i]? ≠ some (some s)) ∧ e9.length = e1.length,
      fun H' h => ⟨src.items.length - (i + 1), by omega, rfl, hlt, h⟩, fun x H5 hy => ?_⟩
    obtain ⟨R5, P5, rdx, keep5⟩ := yld x H5 hy
    refine ⟨ι4, e4, S4, _, e5, R5, rdx, ht, fun σ6 R6 P6 hwσ => ⟨by rw [hwσ, wipe_wipe], ?_⟩⟩
    have PA := (P4.trans P5).trans P6
    have hD5 : H5 Da = some (.lst xs) := keep5 _ _ hD4
    have P46 := P5.trans P6
    have kD : ∀ {H7 ι7 σ7 e7}, Post H5 ι4 σ6 e5 H7 ι7 σ7 e7 → H7 Da = some (.lst xs) ∧ Da ∉ ι7 ∧ ¬ Own σ7 e7 Da ∧ ¬ Obj σ7 e7 Da := fun P7 => by
      obtain ⟨z1, z2, z3, z4⟩ := (P46.trans P7).keep Da _ hD4 n1 fun z => n2 (.of z)
      exact ⟨z1, z2, z3, z4 n2⟩
    have back : ∀ {H7 ι7 e7 S7}, Rel K H7 ι7 σ6 e7 S7 → Post H5 ι4 σ6 e5 H7 ι7 σ6 e7 → Rel K H7 ι7 (L2.wipe σ vs) (wipeE e7 vs) S7 ∧ Post H1 ι1 σ e1 H7 ι7 (L2.wipe σ vs) (wipeE e7 vs) := fun {H7 ι7 e7 S7} R7 P7 => by
      obtain ⟨R8, P8⟩ := R7.wipe vs
      have hx : L2.wipe σ6 vs = L2.wipe σ vs := by rw [hwσ, wipe_wipe]
      rw [hx] at R8 P8
      exact ⟨R8, (PA.trans P7).trans P8⟩
    have nObj : ∀ {e7 : En}, ¬ Obj σ6 e7 Da → ¬ Obj (L2.wipe σ vs) (wipeE e7 vs) Da := fun {e7} h => by
      have hx : L2.wipe σ6 vs = L2.wipe σ vs := by rw [hwσ, wipe_wipe]
      rintro ⟨i, s, z1, z2, z3⟩
      rw [← hx] at z3
      exact h ⟨i, s, (wipeE_some z1).1, z2, (wipe_some z3).1⟩
    have lenE : ∀ {H7 ι7 e7 S7}, Rel K H7 ι7 σ6 e7 S7 → (wipeE e7 vs).length = e1.length := fun {H7 ι7 e7 S7} R7 => by
      have : (L2.wipe σ6 vs).length = (L2.wipe (L2.wipe σ vs) vs).length := by rw [hwσ]
      rw [wipe_length, wipe_length, wipe_length] at this
      rw [wipeE_length, ← R7.len, this]
      exact R1.len
    split at hc
    · rename_i e7 S7 hcond
      refine ⟨ι4, e5, S4, true, e7, S7, R6, hcond, fun H7 ι7 R7 P7 => ?_⟩
      refine iteT ?_
      split at hc
      · rename_i y e8 S8 helt
        split at hc
        case h_2 => cases hc
        rename_i zs' e9 S9 hrest
        cases hc
        refine ⟨ι7, e7, S7, _, e8, S8, R7, helt, fun v H8 ι8 R8 P8 r8 f8 => ?_⟩
        have P78 := P7.trans P8
        obtain ⟨k1, k2, k3, k4⟩ := kD P78
        refine ⟨xs, k1, by rw [rd4.length]; exact Nat.lt_of_lt_of_le (Nat.lt_of_le_of_lt hacc hlt) hz, ?_⟩
        obtain ⟨R9, P9⟩ := back R8 P78
        have st : Stay H8 (upd H8 Da (.lst (xs ++ [v]))) := Stay.mut k1 (fun _ z => nomatch z) fun _ _ z => nomatch z
        have n9 := nObj k4
        refine ⟨ι8, wipeE e8 vs, S8, acc ++ [y], xs ++ [v], zs', R9.other st k2 n9, P9.fresh hD st, upd_same, ?_, k2, n9, by simp; omega, hrest, by simp, fun i hi s => wipeE_none hi, lenE R8⟩
        exact RDs.mono st ⟨[], by simp⟩ _ _ (RDs.append (RDs.mono (P46.trans P78).stay (P46.trans P78).pre _ _ rd4) (.cons r8 .nil))
      · cases hc
    · rename_i e7 S7 hcond
      refine ⟨ι4, e5, S4, false, e7, S7, R6, hcond, fun H7 ι7 R7 P7 => ?_⟩
      refine iteF ?_
      obtain ⟨k1, k2, k3, k4⟩ := kD P7
      obtain ⟨R9, P9⟩ := back R7 P7
      exact ⟨ι7, wipeE e7 vs, S7, acc, xs, zs, R9, P9, k1, RDs.mono (P46.trans P7).stay (P46.trans P7).pre _ _ rd4, k2, nObj k4, by omega, hc, rfl, fun i hi s => wipeE_none hi, lenE R7⟩
    · cases hc
  · have ei : i = src.items.length := by omega
    subst ei
    rw [List.drop_length] at hc
    unfold compL at hc
    split at hc
    case isFalse => cases hc
    rename_i hwat
    cases hc
    have wl : ∀ p ∈ src.ws, ∀ j, p.1 = .loc j → (L2.wipe σ vs)[j]? = σ[j]? := fun p hp j hj => by
      have z := of_wat hwat p hp
      rw [hj] at z
      have z' : (match e'[j]? with
        | some (some (.own o)) => some o
        | _ => none) = some (O.lst p.2) := z
      split at z'
      · rename_i hh
        rw [wipe_at, if_neg (fun zz => hw4 j zz.1 _ hh)]
      · cases z'
    refine .inl ⟨(fd _ H4 ι4 _ _ _ R4 P4 (of_wat hwat) wl).2 (Nat.le_refl _), ?_⟩
    have RF := R4.unwipe hlen hw4
    have PF : Post H1 ι1 σ e1 H4 ι4 σ e' := by
      refine ⟨P4.pre, P4.stay, P4.dom, fun b x g1 g2 g3 => ?_⟩
      obtain ⟨z1, z2, z3, z4⟩ := P4.keep b x g1 g2 g3
      have fwd : ∀ {i : Nat} {s : Sl} {v : V}, e'[i]? = some (some s) → σ[i]? = some (some v) → (L2.wipe σ vs)[i]? = some (some v) := fun {i s v} h h' => by
        rw [wipe_at, if_neg (fun z => hw4 i z.1 s h)]; exact h'
      refine ⟨z1, z2, ?_, fun h => ?_⟩
      · rintro ⟨i, o, h5, h6⟩
        exact z3 ⟨i, o, h5, fwd h5 h6⟩
      · rintro ⟨i, s, h5, h7, h6⟩
        exact z4 h ⟨i, s, h5, h7, fwd h5 h6⟩
    refine q _ H4 ι4 RF (P1.trans PF) ⟨Da, rfl, ⟨xs, hD4, by simpa using rd4⟩, n1, fun ⟨i, s, h5, h7, h6⟩ => ?_⟩ ⟨Da, rfl, P1.back hD⟩
    refine n2 ⟨i, s, h5, h7, ?_⟩
    rw [wipe_at, if_neg (fun z => hw4 i z.1 s h5)]; exact h6
section
variable {X : Cx} {elt tg iter : Expr} {ifs : List Expr} {scope : Scope} {own : List (Str × Nat)} {pos : Pos} {mi : M Src} {t : Tgt} {mc : M Bool} {me : M R}
theorem ge_lc (hc : X.calm = true) (hN : X.N.Nodup) (hi : GI X tg iter mi) (ok : BlkOk X.N X.env.scope scope own)
    (hg : ∀ (s : Shared) (H : Hp) (C : Addr) (cl : List (Str × Addr)) (fp : List Addr), GG (X.blk s H scope (compEnvC scope cl C X.env) fp) (own.map (·.2)) tg t)
    (ht : ∀ (s : Shared) (H : Hp) (C : Addr) (cl : List (Str × Addr)) (fp : List Addr), GTs (X.blk s H scope (compEnvC scope cl C X.env) fp) ifs mc)
    (he : ∀ (s : Shared) (H : Hp) (C : Addr) (cl : List (Str × Addr)) (fp : List Addr), GE (X.blk s H scope (compEnvC scope cl C X.env) fp) elt me) (hs : ∀ x, foldedSetIterable iter X.env x = pure x := by intro _; rfl) :
    GE X (.ListComp elt [⟨tg, iter, ifs, 0⟩] scope pos) (mLc (own.map (·.2)) t mi mc me) := PE.imp (pe_lc hc hN hi ok hg (fun s H C cl fp => (ht s H C cl fp).h) he hs) fun σ H Q q => tLc_of q
end
end G

set_option Elab.async false
set_option linter.all false
set_option maxRecDepth 100000
set_option maxHeartbeats 4000000
/-! GQ: a dict is no other thing. -/
namespace G
open PySem PySem.Spec PyProof.Rows L2
open AutoSeq1 (wpAny_loadPart')
open MeetsSeq MeetsSeq2 MeetsSeq3 SeqRoads2 SeqAt
section
variable {A : Around} {s : Shared} {a : Addr}
def IsD (s : Shared) (a : Addr) : Prop := ∃ (dd : Option Addr) (es : Array DictEntry) (ep : Nat) (sl : Array (Option Value)), s.heap.get? a = some { cls := .type "dict", dict := dd, data := .dict es ep, slots := sl }
theorem IsD.ty (h : IsD s a) : s.TypeIs (.ref a) "dict" := let ⟨_, _, _, _, e⟩ := h; ⟨_, e, rfl⟩
theorem IsD.ne_list {l : Addr} {items : Array Value} (h : IsD s a) (hl : s.heap.IsList l items) : a ≠ l := fun e => by
  subst e
  obtain ⟨_, _, _, _, e1⟩ := h
  obtain ⟨o, ho, hc, _⟩ := hl
  rw [e1] at ho; cases ho
  exact absurd hc (by simp)
theorem IsD.ne_tuple {l : Addr} {items : Array Value} (h : IsD s a) (hl : s.heap.IsTuple l items) : a ≠ l := fun e => by
  subst e
  obtain ⟨_, _, _, _, e1⟩ := h
  obtain ⟨o, ho, hc, _⟩ := hl
  rw [e1] at ho; cases ho
  exact absurd hc (by simp)
theorem dict_no {prog : Program} {w : World} {E : Value → Shared → Prop} {Q : Value → Shared → Prop} {u : Value} {T id : String} (hs : PySem.Slot "dict" id "dict.__eq__") (ha : IsD s a) (hu : s.TypeIs u T) (hT : isSubtype (.type T) (.type "dict") = pure false) (q : Q .notImplemented s) :
    wpAny (model prog w) A (call (.builtin "dict.__eq__") [.ref a, u]) Q E s := by
  refine wpAny_call_entry hs ha.ty PySem.F.entry_dict_eq ?_ (PySem.F.args_dict_eq_2 _ _)
  show wpAny _ _ (Builtin.Dict.dictSlotArgs "__eq__" ⟨[.ref a, u], []⟩ >>= _) _ _ s
  refine wpAny_bind ?_
  unfold Builtin.Dict.dictSlotArgs
  refine wpAny_bind (wpAny_notOrdered_dict ha.ty ?_)
  show wpAny _ _ (pure (Value.ref a, u)) _ _ s
  refine wpAny_pure ?_
  refine wpAny_bind (wpAny_isInstance (T := T) hu hT ?_)
  simp only [Bool.not_false, if_true]
  exact wpAny_bind (wpAny_rule (wpAny_pure ⟨_, rfl, q⟩))
theorem int_no_b (b : Bool) (dd : Option Addr) (es : Array DictEntry) (ep : Nat) (sl : Array (Option Value)) :
    Meets (Builtin.«int.__eq__» ⟨[.bool b, .ref a], []⟩) (fun _ R s => s.heap.get? a = some { cls := .type "dict", dict := dd, data := .dict es ep, slots := sl } ∧ R (.ok (.ret .notImplemented)) s) :=
  .of_wp fun prog w A R s h => by obtain ⟨hp, g, d, tk, os⟩ := s; obtain ⟨h1, h2⟩ := h; wp_walk using wpAny_loadPart' h1, wpAny_load h1; exact ⟨_, rfl, h2⟩
theorem int_no_i (b : Int) (u : Tok) (dd : Option Addr) (es : Array DictEntry) (ep : Nat) (sl : Array (Option Value)) :
    Meets (Builtin.«int.__eq__» ⟨[.int b u, .ref a], []⟩) (fun _ R s => s.heap.get? a = some { cls := .type "dict", dict := dd, data := .dict es ep, slots := sl } ∧ R (.ok (.ret .notImplemented)) s) :=
  .of_wp fun prog w A R s h => by obtain ⟨hp, g, d, tk, os⟩ := s; obtain ⟨h1, h2⟩ := h; wp_walk using wpAny_loadPart' h1, wpAny_load h1; exact ⟨_, rfl, h2⟩
theorem str_no_d (b : Str) (u : Tok) (dd : Option Addr) (es : Array DictEntry) (ep : Nat) (sl : Array (Option Value)) :
    Meets (Builtin.«str.__eq__» ⟨[.str b u, .ref a], []⟩) (fun _ R s => s.heap.get? a = some { cls := .type "dict", dict := dd, data := .dict es ep, slots := sl } ∧ R (.ok (.ret .notImplemented)) s) :=
  .of_wp fun prog w A R s h => by obtain ⟨hp, g, d, tk, os⟩ := s; obtain ⟨h1, h2⟩ := h; wp_walk using wpAny_loadPart' h1, wpAny_load h1; exact ⟨_, rfl, h2⟩
theorem list_no_d (l : Addr) (items : Array Value) (n : Nat) (d1 : Option Addr) (s1 : Array (Option Value)) (dd : Option Addr) (es : Array DictEntry) (ep : Nat) (sl : Array (Option Value)) :
    Meets (Builtin.«list.__eq__» ⟨[.ref l, .ref a], []⟩) (fun _ R s => s.heap.get? l = some { cls := .type "list", dict := d1, data := .seq items n, slots := s1 } ∧ s.heap.get? a = some { cls := .type "dict", dict := dd, data := .dict es ep, slots := sl } ∧ R (.ok (.ret .notImplemented)) s) :=
  .of_wp fun prog w A R s h => by obtain ⟨hp, g, d, tk, os⟩ := s; obtain ⟨h0, h1, h2⟩ := h; have f1 := F.sub_dict_list; wp_walk using wpAny_loadPart' h0, wpAny_loadPart' h1; exact ⟨_, rfl, h2⟩
theorem tuple_no_d (l : Addr) (items : Array Value) (n : Nat) (d1 : Option Addr) (s1 : Array (Option Value)) (dd : Option Addr) (es : Array DictEntry) (ep : Nat) (sl : Array (Option Value)) :
    Meets (Builtin.«tuple.__eq__» ⟨[.ref l, .ref a], []⟩) (fun _ R s => s.heap.get? l = some { cls := .type "tuple", dict := d1, data := .seq items n, slots := s1 } ∧ s.heap.get? a = some { cls := .type "dict", dict := dd, data := .dict es ep, slots := sl } ∧ R (.ok (.ret .notImplemented)) s) :=
  .of_wp fun prog w A R s h => by obtain ⟨hp, g, d, tk, os⟩ := s; obtain ⟨h0, h1, h2⟩ := h; have f1 := F.sub_dict_tuple; wp_walk using wpAny_loadPart' h0, wpAny_loadPart' h1; exact ⟨_, rfl, h2⟩
/-- from order to truth -/
theorem eqB_ref (c : Addr) {v : Value} (hne : (Value.ref c) ≠ v) (h : RcAt A s (.ref c) v false) : EqAt A s (.ref c) v false := fun prog w E Q hq => by
  unfold eqBool
  refine wpAny_holding (wpAny_ite_split (fun hab => absurd (eq_of_beq hab) hne) (fun _ => ?_))
  exact wpAny_bind (h prog w E _ (wpAny_truthy_bool hq))
theorem eqB_none  {v : Value} (hne : (Value.none) ≠ v) (h : RcAt A s .none v false) : EqAt A s .none v false := fun prog w E Q hq => by
  unfold eqBool
  refine wpAny_holding (wpAny_ite_split (fun hab => absurd (eq_of_beq hab) hne) (fun _ => ?_))
  exact wpAny_bind (h prog w E _ (wpAny_truthy_bool hq))
theorem eqB_bool (c : Bool) {v : Value} (hne : (Value.bool c) ≠ v) (h : RcAt A s (.bool c) v false) : EqAt A s (.bool c) v false := fun prog w E Q hq => by
  unfold eqBool
  refine wpAny_holding (wpAny_ite_split (fun hab => absurd (eq_of_beq hab) hne) (fun _ => ?_))
  exact wpAny_bind (h prog w E _ (wpAny_truthy_bool hq))
theorem eqB_int (c : Int) (t : Tok) {v : Value} (hne : (Value.int c t) ≠ v) (h : RcAt A s (.int c t) v false) : EqAt A s (.int c t) v false := fun prog w E Q hq => by
  unfold eqBool
  refine wpAny_holding (wpAny_ite_split (fun hab => absurd (eq_of_beq hab) hne) (fun _ => ?_))
  exact wpAny_bind (h prog w E _ (wpAny_truthy_bool hq))
theorem eqB_str (c : Str) (t : Tok) {v : Value} (hne : (Value.str c t) ≠ v) (h : RcAt A s (.str c t) v false) : EqAt A s (.str c t) v false := fun prog w E Q hq => by
  unfold eqBool
  refine wpAny_holding (wpAny_ite_split (fun hab => absurd (eq_of_beq hab) hne) (fun _ => ?_))
  exact wpAny_bind (h prog w E _ (wpAny_truthy_bool hq))
theorem dict_noN {prog : Program} {w : World} {E : Value → Shared → Prop} {Q : Value → Shared → Prop} {u : Value} {T id : String} (hs : PySem.Slot "dict" id "dict.__ne__") (ha : IsD s a) (hu : s.TypeIs u T) (hT : isSubtype (.type T) (.type "dict") = pure false) (q : Q .notImplemented s) :
    wpAny (model prog w) A (call (.builtin "dict.__ne__") [.ref a, u]) Q E s := by
  refine wpAny_call_entry hs ha.ty PySem.F.entry_dict_ne ?_ (PySem.F.args_dict_ne_2 _ _)
  show wpAny _ _ (Builtin.Dict.dictSlotArgs "__ne__" ⟨[.ref a, u], []⟩ >>= _) _ _ s
  refine wpAny_bind ?_
  unfold Builtin.Dict.dictSlotArgs
  refine wpAny_bind (wpAny_notOrdered_dict ha.ty ?_)
  show wpAny _ _ (pure (Value.ref a, u)) _ _ s
  refine wpAny_pure ?_
  refine wpAny_bind (wpAny_isInstance (T := T) hu hT ?_)
  simp only [Bool.not_false, if_true]
  exact wpAny_bind (wpAny_rule (wpAny_pure ⟨_, rfl, q⟩))
theorem tuple_noN_d (l : Addr) (items : Array Value) (n : Nat) (d1 : Option Addr) (s1 : Array (Option Value)) (dd : Option Addr) (es : Array DictEntry) (ep : Nat) (sl : Array (Option Value)) :
    Meets (Builtin.«tuple.__ne__» ⟨[.ref l, .ref a], []⟩) (fun _ R s => s.heap.get? l = some { cls := .type "tuple", dict := d1, data := .seq items n, slots := s1 } ∧ s.heap.get? a = some { cls := .type "dict", dict := dd, data := .dict es ep, slots := sl } ∧ R (.ok (.ret .notImplemented)) s) :=
  .of_wp fun prog w A R s h => by obtain ⟨hp, g, d, tk, os⟩ := s; obtain ⟨h0, h1, h2⟩ := h; have f1 := F.sub_dict_tuple; wp_walk using wpAny_loadPart' h0, wpAny_loadPart' h1; exact ⟨_, rfl, h2⟩
variable (ha : IsD s a) (hu : A.units < cLine)
include ha hu
theorem rcN_dT {l : Addr} {items : Array Value} (hl : s.heap.IsTuple l items) : RcNeAt A s (.ref a) (.ref l) true := fun prog w E Q h => by
  have hne := ha.ne_tuple hl
  obtain ⟨dd, es, ep, sl, e⟩ := id ha
  obtain ⟨⟨cls, d1, data, s1⟩, ho, hc, n, hd⟩ := id hl
  simp only at hc hd
  subst hc hd
  exact rc_ne_decline_or (k := false) ha.ty ⟨_, ho, rfl⟩ (by decide) F.sub_tuple_dict F.slot_dict_ne F.slot_tuple_ne_refl
    (fun _ hq => dict_noN F.slot_dict_ne ha ⟨_, ho, rfl⟩ F.sub_tuple_dict hq) (fun _ hq => call_meets F.slot_tuple_ne_refl ⟨_, ho, rfl⟩ F.entry_tuple_ne (F.args_tuple_ne_2 _ _) (tuple_noN_d l items n d1 s1 dd es ep sl) ⟨ho, e, hq⟩)
    (fun _ hq => wpAny_isSame_ref_other hne e ho (by simp) hq) (.inr hu) h
theorem rcN_Td {l : Addr} {items : Array Value} (hl : s.heap.IsTuple l items) : RcNeAt A s (.ref l) (.ref a) true := fun prog w E Q h => by
  have hne := ha.ne_tuple hl
  obtain ⟨dd, es, ep, sl, e⟩ := id ha
  obtain ⟨⟨cls, d1, data, s1⟩, ho, hc, n, hd⟩ := id hl
  simp only at hc hd
  subst hc hd
  exact rc_ne_decline_or (k := false) ⟨_, ho, rfl⟩ ha.ty (by decide) F.sub_dict_tuple F.slot_tuple_ne F.slot_dict_ne_refl
    (fun _ hq => call_meets F.slot_tuple_ne ⟨_, ho, rfl⟩ F.entry_tuple_ne (F.args_tuple_ne_2 _ _) (tuple_noN_d l items n d1 s1 dd es ep sl) ⟨ho, e, hq⟩) (fun _ hq => dict_noN F.slot_dict_ne_refl ha ⟨_, ho, rfl⟩ F.sub_tuple_dict hq)
    (fun _ hq => wpAny_isSame_ref_other' hne.symm ho e (by simp) hq) (.inr hu) h
theorem rc_dN : RcAt A s (.ref a) .none false := fun prog w E Q h => by
  obtain ⟨dd, es, ep, sl, e⟩ := id ha
  exact rc_eq_decline_or (k := false) ha.ty rfl (by decide) F.sub_NoneType_dict F.slot_dict_eq F.slot_NoneType_eq_refl
    (fun _ hq => dict_no F.slot_dict_eq ha rfl F.sub_NoneType_dict hq) (fun _ hq => call_gives F.slot_NoneType_eq_refl rfl F.entry_NoneType_eq (F.args_NoneType_eq_2 _ _) (NoneType___eq___none_ref_0 a) hq)
    (fun _ hq => wpAny_of_eq (rfl : isSame (.ref a) .none = pure false) hq) (.inr hu) h
theorem rc_Nd : RcAt A s .none (.ref a) false := fun prog w E Q h => by
  exact rc_eq_decline_or (k := false) rfl ha.ty (by decide) F.sub_dict_NoneType F.slot_NoneType_eq F.slot_dict_eq_refl
    (fun _ hq => call_gives F.slot_NoneType_eq rfl F.entry_NoneType_eq (F.args_NoneType_eq_2 _ _) (NoneType___eq___none_ref_0 a) hq) (fun _ hq => dict_no F.slot_dict_eq_refl ha rfl F.sub_NoneType_dict hq)
    (fun _ hq => wpAny_of_eq (rfl : isSame .none (.ref a) = pure false) hq) (.inr hu) h
theorem rc_dB (b : Bool) : RcAt A s (.ref a) (.bool b) false := fun prog w E Q h => by
  obtain ⟨dd, es, ep, sl, e⟩ := id ha
  exact rc_eq_decline_or (k := false) ha.ty rfl (by decide) F.sub_bool_dict F.slot_dict_eq F.slot_bool_eq_refl
    (fun _ hq => dict_no F.slot_dict_eq ha rfl F.sub_bool_dict hq) (fun _ hq => call_meets F.slot_bool_eq_refl rfl F.entry_int_eq (F.args_int_eq_2 _ _) (int_no_b b dd es ep sl) ⟨e, hq⟩)
    (fun _ hq => wpAny_of_eq (rfl : isSame (.ref a) (.bool b) = pure false) hq) (.inr hu) h
theorem rc_Bd (b : Bool) : RcAt A s (.bool b) (.ref a) false := fun prog w E Q h => by
  obtain ⟨dd, es, ep, sl, e⟩ := id ha
  exact rc_eq_decline_or (k := false) rfl ha.ty (by decide) F.sub_dict_bool F.slot_bool_eq F.slot_dict_eq_refl
    (fun _ hq => call_meets F.slot_bool_eq rfl F.entry_int_eq (F.args_int_eq_2 _ _) (int_no_b b dd es ep sl) ⟨e, hq⟩) (fun _ hq => dict_no F.slot_dict_eq_refl ha rfl F.sub_bool_dict hq)
    (fun _ hq => wpAny_of_eq (rfl : isSame (.bool b) (.ref a) = pure false) hq) (.inr hu) h
theorem rc_dI (b : Int) (u : Tok) : RcAt A s (.ref a) (.int b u) false := fun prog w E Q h => by
  obtain ⟨dd, es, ep, sl, e⟩ := id ha
  exact rc_eq_decline_or (k := false) ha.ty (typeIs_int s b u) (by decide) F.sub_int_dict F.slot_dict_eq F.slot_int_eq_refl
    (fun _ hq => dict_no F.slot_dict_eq ha (typeIs_int s b u) F.sub_int_dict hq) (fun _ hq => call_meets F.slot_int_eq_refl (typeIs_int s b u) F.entry_int_eq (F.args_int_eq_2 _ _) (int_no_i b u dd es ep sl) ⟨e, hq⟩)
    (fun _ hq => wpAny_of_eq (rfl : isSame (.ref a) (.int b u) = pure false) hq) (.inr hu) h
theorem rc_Id (b : Int) (u : Tok) : RcAt A s (.int b u) (.ref a) false := fun prog w E Q h => by
  obtain ⟨dd, es, ep, sl, e⟩ := id ha
  exact rc_eq_decline_or (k := false) (typeIs_int s b u) ha.ty (by decide) F.sub_dict_int F.slot_int_eq F.slot_dict_eq_refl
    (fun _ hq => call_meets F.slot_int_eq (typeIs_int s b u) F.entry_int_eq (F.args_int_eq_2 _ _) (int_no_i b u dd es ep sl) ⟨e, hq⟩) (fun _ hq => dict_no F.slot_dict_eq_refl ha (typeIs_int s b u) F.sub_int_dict hq)
    (fun _ hq => wpAny_of_eq (rfl : isSame (.int b u) (.ref a) = pure false) hq) (.inr hu) h
theorem rc_dS (b : Str) (u : Tok) : RcAt A s (.ref a) (.str b u) false := fun prog w E Q h => by
  obtain ⟨dd, es, ep, sl, e⟩ := id ha
  exact rc_eq_decline_or (k := false) ha.ty (typeIs_str s b u) (by decide) F.sub_str_dict F.slot_dict_eq F.slot_str_eq_refl
    (fun _ hq => dict_no F.slot_dict_eq ha (typeIs_str s b u) F.sub_str_dict hq) (fun _ hq => call_meets F.slot_str_eq_refl (typeIs_str s b u) F.entry_str_eq (F.args_str_eq_2 _ _) (str_no_d b u dd es ep sl) ⟨e, hq⟩)
    (fun _ hq => wpAny_of_eq (rfl : isSame (.ref a) (.str b u) = pure false) hq) (.inr hu) h
theorem rc_Sd (b : Str) (u : Tok) : RcAt A s (.str b u) (.ref a) false := fun prog w E Q h => by
  obtain ⟨dd, es, ep, sl, e⟩ := id ha
  exact rc_eq_decline_or (k := false) (typeIs_str s b u) ha.ty (by decide) F.sub_dict_str F.slot_str_eq F.slot_dict_eq_refl
    (fun _ hq => call_meets F.slot_str_eq (typeIs_str s b u) F.entry_str_eq (F.args_str_eq_2 _ _) (str_no_d b u dd es ep sl) ⟨e, hq⟩) (fun _ hq => dict_no F.slot_dict_eq_refl ha (typeIs_str s b u) F.sub_str_dict hq)
    (fun _ hq => wpAny_of_eq (rfl : isSame (.str b u) (.ref a) = pure false) hq) (.inr hu) h
theorem rc_dL {l : Addr} {items : Array Value} (hl : s.heap.IsList l items) : RcAt A s (.ref a) (.ref l) false := fun prog w E Q h => by
  have hne := ha.ne_list hl
  obtain ⟨dd, es, ep, sl, e⟩ := id ha
  obtain ⟨⟨cls, d1, data, s1⟩, ho, hc, n, hd⟩ := id hl
  simp only at hc hd
  subst hc hd
  exact rc_eq_decline_or (k := false) ha.ty ⟨_, ho, rfl⟩ (by decide) F.sub_list_dict F.slot_dict_eq F.slot_list_eq_refl
    (fun _ hq => dict_no F.slot_dict_eq ha ⟨_, ho, rfl⟩ F.sub_list_dict hq) (fun _ hq => call_meets F.slot_list_eq_refl ⟨_, ho, rfl⟩ F.entry_list_eq (F.args_list_eq_2 _ _) (list_no_d l items n d1 s1 dd es ep sl) ⟨ho, e, hq⟩)
    (fun _ hq => wpAny_isSame_ref_other hne e ho (by simp) hq) (.inr hu) h
theorem rc_Ld {l : Addr} {items : Array Value} (hl : s.heap.IsList l items) : RcAt A s (.ref l) (.ref a) false := fun prog w E Q h => by
  have hne := ha.ne_list hl
  obtain ⟨dd, es, ep, sl, e⟩ := id ha
  obtain ⟨⟨cls, d1, data, s1⟩, ho, hc, n, hd⟩ := id hl
  simp only at hc hd
  subst hc hd
  exact rc_eq_decline_or (k := false) ⟨_, ho, rfl⟩ ha.ty (by decide) F.sub_dict_list F.slot_list_eq F.slot_dict_eq_refl
    (fun _ hq => call_meets F.slot_list_eq ⟨_, ho, rfl⟩ F.entry_list_eq (F.args_list_eq_2 _ _) (list_no_d l items n d1 s1 dd es ep sl) ⟨ho, e, hq⟩) (fun _ hq => dict_no F.slot_dict_eq_refl ha ⟨_, ho, rfl⟩ F.sub_list_dict hq)
    (fun _ hq => wpAny_isSame_ref_other hne.symm ho e (by simp) hq) (.inr hu) h
theorem rc_dT {l : Addr} {items : Array Value} (hl : s.heap.IsTuple l items) : RcAt A s (.ref a) (.ref l) false := fun prog w E Q h => by
  have hne := ha.ne_tuple hl
  obtain ⟨dd, es, ep, sl, e⟩ := id ha
  obtain ⟨⟨cls, d1, data, s1⟩, ho, hc, n, hd⟩ := id hl
  simp only at hc hd
  subst hc hd
  exact rc_eq_decline_or (k := false) ha.ty ⟨_, ho, rfl⟩ (by decide) F.sub_tuple_dict F.slot_dict_eq F.slot_tuple_eq_refl
    (fun _ hq => dict_no F.slot_dict_eq ha ⟨_, ho, rfl⟩ F.sub_tuple_dict hq) (fun _ hq => call_meets F.slot_tuple_eq_refl ⟨_, ho, rfl⟩ F.entry_tuple_eq (F.args_tuple_eq_2 _ _) (tuple_no_d l items n d1 s1 dd es ep sl) ⟨ho, e, hq⟩)
    (fun _ hq => wpAny_isSame_ref_other hne e ho (by simp) hq) (.inr hu) h
theorem rc_Td {l : Addr} {items : Array Value} (hl : s.heap.IsTuple l items) : RcAt A s (.ref l) (.ref a) false := fun prog w E Q h => by
  have hne := ha.ne_tuple hl
  obtain ⟨dd, es, ep, sl, e⟩ := id ha
  obtain ⟨⟨cls, d1, data, s1⟩, ho, hc, n, hd⟩ := id hl
  simp only at hc hd
  subst hc hd
  exact rc_eq_decline_or (k := false) ⟨_, ho, rfl⟩ ha.ty (by decide) F.sub_dict_tuple F.slot_tuple_eq F.slot_dict_eq_refl
    (fun _ hq => call_meets F.slot_tuple_eq ⟨_, ho, rfl⟩ F.entry_tuple_eq (F.args_tuple_eq_2 _ _) (tuple_no_d l items n d1 s1 dd es ep sl) ⟨ho, e, hq⟩) (fun _ hq => dict_no F.slot_dict_eq_refl ha ⟨_, ho, rfl⟩ F.sub_tuple_dict hq)
    (fun _ hq => wpAny_isSame_ref_other' hne.symm ho e (by simp) hq) (.inr hu) h
end
end G

set_option Elab.async false
set_option linter.all false
set_option maxRecDepth 100000
set_option maxHeartbeats 4000000
/-! GE: == and != of data of any depth. -/
namespace G
variable [Wld]
open PySem PySem.Spec PyProof.Rows L2
mutual
/-- no object that may change, no def -/
def datB : D → Bool
  | .non => true
  | .bl _ => true
  | .int _ => true
  | .str _ => true
  | .tup ds => datsB ds
  | .lst ds => datsB ds
  | .dic _ ds => datsB ds
  | .ref _ => false
  | .fn _ => false
  | .exc _ _ _ => false
def datsB : List D → Bool
  | [] => true
  | d :: ds => datB d && datsB ds
end
theorem datsB_all : ∀ ds : List D, datsB ds = ds.all datB
  | [] => rfl
  | d :: ds => by rw [datsB, datsB_all ds]; rfl
/-- scalars -/
def flat : D → Bool
  | .non => true
  | .bl _ => true
  | .int _ => true
  | .str _ => true
  | _ => false
def eqS : D → D → Bool
  | .non, .non => true
  | .bl a, .bl b => a == b
  | .bl a, .int b => (if a then 1 else 0) == b
  | .int a, .bl b => a == (if b then 1 else 0)
  | .int a, .int b => a == b
  | .str a, .str b => a == b
  | _, _ => false
/-- part by part -/
def zipF (f : D → D → Option Bool) : List D → List D → Option Bool
  | x :: xs, y :: ys => match f x y, zipF f xs ys with
    | some a, some b => some (a && b)
    | _, _ => none
  | _, _ => some true
/-- ==; of two dicts, and too deep, nothing is told -/
def deq : Nat → D → D → Option Bool
  | n + 1, .tup xs, .tup ys => (zipF (deq n) xs ys).map fun b => b && xs.length == ys.length
  | n + 1, .lst xs, .lst ys => if xs.length = ys.length then zipF (deq n) xs ys else some false
  | 0, .tup _, .tup _ => none
  | 0, .lst _, .lst _ => none
  | _, .dic _ _, .dic _ _ => none
  | _, x, y => some (eqS x y)
section
variable {K : PySem.W.Frag} {H : Hp} {ι : List Addr} {X : Cx} {pins : List (Addr × PySem.Obj)} {σ : SV} {s : Shared}
theorem IsD.of (I : Inv X pins σ H s) {a : Addr} {o : PySem.Obj} {ws : List (Key × V)} (h : H a = some (.frz o (.dK ws))) : IsD s a := by
  obtain ⟨_, _, vs, _, ob, es, ep, e, hx, hd, _⟩ := dk_rd I.hok (.inr ⟨o, h⟩)
  obtain ⟨cls, dd, data, sl⟩ := ob
  obtain ⟨h1, h2, h3⟩ := hx
  simp only at h1 h2 h3 hd
  subst h1 h2 h3 hd
  exact ⟨_, _, _, _, e⟩
theorem LF.isL (I : Inv X pins σ H s) {a : Addr} {xs : List V} (h : LF X.K H a xs) : ∃ its, Vals xs its ∧ s.heap.IsList a its.toArray := by
  obtain ⟨its, r, p, _⟩ := I.list h.sq
  exact ⟨its, r, p.isList⟩
theorem Vals.at {xs : List V} {us : List Value} (h : Vals xs us) : ∀ {j : Nat} {u : Value}, us[j]? = some u → ∃ v, xs[j]? = some v ∧ RelV v u := by
  induction h with
  | nil => intro j u e; simp at e
  | cons h1 _ ih =>
    intro j u e
    cases j with
    | zero => simp at e; subst e; exact ⟨_, rfl, h1⟩
    | succ j => exact ih (by simpa using e)
theorem isTup_same {h : Heap} {a : Addr} {i j : List Value} (p : IsTup h a i.toArray) (q : IsTup h a j.toArray) : i = j := by
  obtain ⟨o, e1, _, n, d1⟩ := p
  obtain ⟨o', e2, _, n', d2⟩ := q
  rw [e1] at e2; cases e2
  rw [d1] at d2
  injection d2 with d2
  simpa using d2
mutual
/-- a value is one data -/
theorem RD.det (I : Inv X pins σ H s) : ∀ (d d' : D) (v : V), datB d = true → datB d' = true → RD X.K H ι v d → RD X.K H ι v d' → d = d'
  | .non, d', _, _, h2, r, r' => by cases r; cases r' <;> rfl
  | .bl b, d', _, _, h2, r, r' => by cases r; cases r' <;> rfl
  | .int b, d', _, _, h2, r, r' => by cases r; cases r' <;> rfl
  | .str b, d', _, _, h2, r, r' => by cases r; cases r' <;> rfl
  | .ref _, _, _, h1, _, _, _ => by cases h1
  | .fn _, _, _, h1, _, _, _ => by cases h1
  | .tup ds, d', _, h1, h2, r, r' => by
    cases r with | tup g1 g2 =>
    obtain ⟨its, rv, p, _⟩ := I.tuple g1.sq
    cases r' with
    | tup g3 g4 =>
      obtain ⟨its', rv', p', _⟩ := I.tuple g3.sq
      have := isTup_same p p'
      subst this
      have := Vals.inj rv rv'
      subst this
      rw [RDs.det I ds _ _ (by simpa [datB] using h1) (by simpa [datB] using h2) g2 g4]
    | lst g3 g4 =>
      obtain ⟨its', rv', p'⟩ := LF.isL I g3
      exact (SeqAt.ne_of_list_tuple p' p rfl).elim
    | dic g3 _ _ => exact ((IsD.of I g3).ne_tuple p rfl).elim
    | ref _ => cases h2
    | fn _ => cases h2
    | exc _ => cases h2
  | .lst ds, d', _, h1, h2, r, r' => by
    cases r with | lst g1 g2 =>
    obtain ⟨its, rv, p⟩ := LF.isL I g1
    cases r' with
    | tup g3 g4 =>
      obtain ⟨its', rv', p', _⟩ := I.tuple g3.sq
      exact (SeqAt.ne_of_list_tuple p p' rfl).elim
    | lst g3 g4 =>
      have := I.list_inj g1.sq g3.sq
      subst this
      rw [RDs.det I ds _ _ (by simpa [datB] using h1) (by simpa [datB] using h2) g2 g4]
    | dic g3 _ _ => exact ((IsD.of I g3).ne_list p rfl).elim
    | ref _ => cases h2
    | fn _ => cases h2
    | exc _ => cases h2
  | .dic ks ds, d', _, h1, h2, r, r' => by
    cases r with | dic g1 e1 g2 =>
    cases r' with
    | tup g3 g4 =>
      obtain ⟨its', rv', p', _⟩ := I.tuple g3.sq
      exact ((IsD.of I g1).ne_tuple p' rfl).elim
    | lst g3 g4 =>
      obtain ⟨its', rv', p'⟩ := LF.isL I g3
      exact ((IsD.of I g1).ne_list p' rfl).elim
    | dic g3 e3 g4 =>
      rename_i xs _ xs' ks' ds'
      rw [g1] at g3
      have e := Option.some.inj g3
      injection e with _ e
      injection e with e
      have l1 := g2.length
      have l2 := g4.length
      have a1 : ks = ks' := by
        have := congrArg (List.map Prod.fst) e
        rwa [List.map_fst_zip (by omega), List.map_fst_zip (by omega)] at this
      subst a1
      have a2 : xs = xs' := by
        have := congrArg (List.map Prod.snd) e
        rwa [List.map_snd_zip (by omega), List.map_snd_zip (by omega)] at this
      subst a2
      rw [RDs.det I ds _ _ (by simpa [datB] using h1) (by simpa [datB] using h2) g2 g4]
    | ref _ => cases h2
    | fn _ => cases h2
    | exc _ => cases h2
theorem RDs.det (I : Inv X pins σ H s) : ∀ (ds ds' : List D) (vs : List V), datsB ds = true → datsB ds' = true → RDs X.K H ι vs ds → RDs X.K H ι vs ds' → ds = ds'
  | [], _, _, _, _, r, r' => by cases r; cases r'; rfl
  | d :: ds, _, _, h1, h2, r, r' => by
    cases r with | cons g1 g2 =>
    cases r' with | cons g3 g4 =>
    rw [datsB, Bool.and_eq_true] at h1 h2
    rw [RD.det I d _ _ h1.1 h2.1 g1 g3, RDs.det I ds _ _ h1.2 h2.2 g2 g4]
end
theorem zipF_same {f : D → D → Option Bool} : ∀ {ds : List D} {b : Bool}, (∀ d ∈ ds, ∀ b, f d d = some b → b = true) → zipF f ds ds = some b → b = true
  | [], b, _, h => by cases h; rfl
  | d :: ds, b, w, h => by
    unfold zipF at h
    split at h
    · rename_i a c h1 h2
      cases h
      rw [w d (by simp) _ h1, zipF_same (fun x hx => w x (by simp [hx])) h2]; rfl
    · cases h
theorem deq_same : ∀ {n : Nat} {d : D} {b : Bool}, datB d = true → deq n d d = some b → b = true
  | n, .non, b, _, h => by cases n <;> (unfold deq at h; cases h; rfl)
  | n, .bl x, b, _, h => by cases n <;> (unfold deq at h; cases h; simp [eqS])
  | n, .int x, b, _, h => by cases n <;> (unfold deq at h; cases h; simp [eqS])
  | n, .str x, b, _, h => by cases n <;> (unfold deq at h; cases h; simp [eqS])
  | 0, .tup ds, b, _, h => by cases h
  | n + 1, .tup ds, b, hd, h => by
    unfold deq at h
    obtain ⟨c, h1, h2⟩ := Option.map_eq_some_iff.mp h
    subst h2
    have hd' := datsB_all ds ▸ (show datsB ds = true by simpa [datB] using hd)
    rw [zipF_same (fun d hm b hb => deq_same (List.all_eq_true.mp hd' d hm) hb) h1]
    simp
  | 0, .lst ds, b, _, h => by cases h
  | n + 1, .lst ds, b, hd, h => by
    unfold deq at h
    rw [if_pos rfl] at h
    have hd' := datsB_all ds ▸ (show datsB ds = true by simpa [datB] using hd)
    exact zipF_same (fun d hm b hb => deq_same (List.all_eq_true.mp hd' d hm) hb) h
  | n, .dic ks ds, b, _, h => by cases n <;> cases h
  | _, .ref _, _, hd, _ => by cases hd
  | _, .fn _, _, hd, _ => by cases hd
theorem zipF_at {f : D → D → Option Bool} : ∀ {xs ys : List D} {b : Bool}, zipF f xs ys = some b → ∃ e : Nat → Bool, (∀ j x y, xs[j]? = some x → ys[j]? = some y → f x y = some (e j)) ∧ b = (List.range (min xs.length ys.length)).all e
  | [], _, b, h => by cases h; exact ⟨fun _ => true, fun j x y e => by simp at e, by simp⟩
  | _ :: _, [], b, h => by cases h; exact ⟨fun _ => true, fun j x y _ e => by simp at e, by simp⟩
  | x :: xs, y :: ys, b, h => by
    unfold zipF at h
    split at h
    · rename_i a c h1 h2
      cases h
      obtain ⟨e, g1, g2⟩ := zipF_at h2
      refine ⟨fun j => match j with | 0 => a | j + 1 => e j, fun j u v hu hv => ?_, ?_⟩
      · cases j with
        | zero => simp at hu hv; subst hu hv; exact h1
        | succ j => exact g1 j u v (by simpa using hu) (by simpa using hv)
      · rw [g2, List.length_cons, List.length_cons, Nat.succ_min_succ, List.range_succ_eq_map, List.all_cons, List.all_map]
        rfl
    · cases h
theorem RDs.items {xs : List V} {ds : List D} {us : List Value} (h : RDs K H ι xs ds) (r : Vals xs us) : us.length = ds.length ∧ ∀ {j : Nat} {u : Value}, us[j]? = some u → ∃ v d, ds[j]? = some d ∧ RelV v u ∧ RD K H ι v d := by
  refine ⟨by rw [← r.length, h.length], fun {j u} e => ?_⟩
  obtain ⟨v, hv, rv⟩ := Vals.at r e
  have hl := (List.getElem?_eq_some_iff.mp hv).1
  rw [h.length] at hl
  obtain ⟨v', hv', rd⟩ := h.get (List.getElem?_eq_getElem hl)
  rw [hv] at hv'; cases hv'
  exact ⟨v, _, List.getElem?_eq_getElem hl, rv, rd⟩
/-- what == tells, from above -/
inductive Kin (X : Cx) (H : Hp) (ι : List Addr) (s : Shared) (n : Nat) (A : Around) (neg : Bool) (u v : Value) (b : Bool) : Prop
  | mk : (neg = false → SeqAt.RcAt A s u v b) → (neg = true → SeqAt.RcNeAt A s u v (!b)) → Kin X H ι s n A neg u v b
def isDic : D → Bool
  | .dic _ _ => true
  | _ => false
def isTupD : D → Bool
  | .tup _ => true
  | _ => false
/-- != of a dict is told beside a tuple alone -/
def neOk (neg : Bool) (x y : D) : Bool := !neg || (!isDic x || isTupD y) && (!isDic y || isTupD x)
/-- an object read where it stands -/
def RDw (K : PySem.W.Frag) (H : Hp) (ι : List Addr) (v : V) (d : D) : Prop := RD K H ι v d ∨ ∃ a xs ds, v = .ref a ∧ d = .lst ds ∧ SqL K H a xs ∧ RDs K H ι xs ds
theorem RDw.lst {K : PySem.W.Frag} {H : Hp} {ι : List Addr} {v : V} {ds : List D} (h : RDw K H ι v (.lst ds)) : ∃ a xs, v = .ref a ∧ SqL K H a xs ∧ RDs K H ι xs ds := by
  rcases h with h | ⟨a, xs, ds', h1, h2, h3, h4⟩
  · cases h with | lst g1 g2 => exact ⟨_, _, rfl, g1.sq, g2⟩
  · cases h2; exact ⟨a, xs, h1, h3, h4⟩
theorem RDw.tup {K : PySem.W.Frag} {H : Hp} {ι : List Addr} {v : V} {ds : List D} (h : RDw K H ι v (.tup ds)) : ∃ a xs, v = .ref a ∧ SqT K H a xs ∧ RDs K H ι xs ds := by
  rcases h with h | ⟨a, xs, ds', h1, h2, h3, h4⟩
  · cases h with | tup g1 g2 => exact ⟨_, _, rfl, g1, g2⟩
  · cases h2
def RcP (X : Cx) (H : Hp) (ι : List Addr) (s : Shared) (n : Nat) : Prop := ∀ (A : Around) (neg : Bool) (x y : D) (b : Bool) (vx vy : V) (u v : Value), A.units + n < cLine → datB x = true → datB y = true → neOk neg x y = true → RDw X.K H ι vx x → RDw X.K H ι vy y → RelV vx u → RelV vy v → deq n x y = some b →
    (neg = false → SeqAt.RcAt A s u v b) ∧ (neg = true → SeqAt.RcNeAt A s u v (!b))
def AtP (X : Cx) (H : Hp) (ι : List Addr) (s : Shared) (n : Nat) : Prop := ∀ (A : Around) (x y : D) (b : Bool) (vx vy : V) (u v : Value), A.units + n < cLine → datB x = true → datB y = true → RD X.K H ι vx x → RD X.K H ι vy y → RelV vx u → RelV vy v → deq n x y = some b → SeqAt.EqAt A s u v b
/-- what stands there -/
inductive Sh (s : Shared) : Value → D → Prop
  | non : Sh s .none .non
  | bl (b : Bool) : Sh s (.bool b) (.bl b)
  | int (i : Int) (t : Tok) : Sh s (.int i t) (.int i)
  | str (x : Str) (t : Tok) : Sh s (.str x t) (.str x)
  | tup {a : Addr} {its : Array Value} {ds : List D} : s.heap.IsTuple a its → Sh s (.ref a) (.tup ds)
  | lst {a : Addr} {its : Array Value} {ds : List D} : s.heap.IsList a its → Sh s (.ref a) (.lst ds)
  | dic {a : Addr} {ks : List Key} {ds : List D} : IsD s a → Sh s (.ref a) (.dic ks ds)
theorem RDw.sh (I : Inv X pins σ H s) {v : V} {u : Value} {d : D} (h : RDw X.K H ι v d) (r : RelV v u) (hd : datB d = true) : Sh s u d := by
  rcases h with h | ⟨a, xs, ds, rfl, rfl, h1, h2⟩
  rotate_left
  · cases r
    obtain ⟨its, _, p, _⟩ := I.list h1
    exact .lst p.isList
  cases h with
  | non => cases r; exact .non
  | bl b => cases r; exact .bl b
  | int i => obtain ⟨t, rfl⟩ := r; exact .int i t
  | str x => obtain ⟨t, rfl⟩ := r; exact .str x t
  | tup g1 g2 => cases r; obtain ⟨its, _, p, _⟩ := I.tuple g1.sq; exact .tup p
  | lst g1 g2 => cases r; obtain ⟨its, _, p⟩ := LF.isL I g1; exact .lst p
  | dic g1 _ _ => cases r; exact .dic (IsD.of I g1)
  | ref _ => cases hd
  | fn _ => cases hd
  | exc _ => cases hd
def unlike : D → D → Bool
  | .tup _, .tup _ => false
  | .lst _, .lst _ => false
  | .dic _ _, .dic _ _ => false
  | _, _ => true
theorem rc_unlike {A : Around} {u v : Value} {x y : D} (hu : A.units < cLine) (hx : Sh s u x) (hy : Sh s v y) (hn : unlike x y = true) : SeqAt.RcAt A s u v (eqS x y) := by
  cases hx with
  | non =>
    cases hy with
    | non => exact SeqAt.RcAt.none_none
    | bl b2 => exact SeqAt.RcAt.none_bool _
    | int i2 t2 => exact SeqAt.RcAt.none_int _ _
    | str z2 t2 => exact SeqAt.RcAt.none_str _ _
    | tup p2 => exact SeqAt.RcAt.none_tuple p2 hu
    | lst p2 => exact SeqAt.RcAt.none_list p2 hu
    | dic p2 => exact rc_Nd p2 hu
  | bl b =>
    cases hy with
    | non => exact SeqAt.RcAt.bool_none _
    | bl b2 => exact SeqAt.RcAt.bool_bool _ _
    | int i2 t2 => exact SeqAt.RcAt.bool_int _ _ _
    | str z2 t2 => exact SeqAt.RcAt.bool_str _ _ _
    | tup p2 => exact SeqAt.RcAt.bool_tuple _ p2 hu
    | lst p2 => exact SeqAt.RcAt.bool_list _ p2 hu
    | dic p2 => exact rc_Bd p2 hu _
  | int i t =>
    cases hy with
    | non => exact SeqAt.RcAt.int_none _ _
    | bl b2 => exact SeqAt.RcAt.int_bool _ _ _
    | int i2 t2 => exact SeqAt.RcAt.int_int _ _ _ _
    | str z2 t2 => exact SeqAt.RcAt.int_str _ _ _ _
    | tup p2 => exact SeqAt.RcAt.int_tuple _ _ p2 hu
    | lst p2 => exact SeqAt.RcAt.int_list _ _ p2 hu
    | dic p2 => exact rc_Id p2 hu _ _
  | str z t =>
    cases hy with
    | non => exact SeqAt.RcAt.str_none _ _
    | bl b2 => exact SeqAt.RcAt.str_bool _ _ _
    | int i2 t2 => exact SeqAt.RcAt.str_int _ _ _ _
    | str z2 t2 => exact SeqAt.RcAt.str_str _ _ _ _
    | tup p2 => exact SeqAt.RcAt.str_tuple _ _ p2 hu
    | lst p2 => exact SeqAt.RcAt.str_list _ _ p2 hu
    | dic p2 => exact rc_Sd p2 hu _ _
  | tup p =>
    cases hy with
    | non => exact SeqAt.RcAt.tuple_none p hu
    | bl b2 => exact SeqAt.RcAt.tuple_bool _ p hu
    | int i2 t2 => exact SeqAt.RcAt.tuple_int _ _ p hu
    | str z2 t2 => exact SeqAt.RcAt.tuple_str _ _ p hu
    | tup p2 => cases hn
    | lst p2 => exact SeqAt.RcAt.tuple_list p p2 hu
    | dic p2 => exact rc_Td p2 hu p
  | lst p =>
    cases hy with
    | non => exact SeqAt.RcAt.list_none p hu
    | bl b2 => exact SeqAt.RcAt.list_bool _ p hu
    | int i2 t2 => exact SeqAt.RcAt.list_int _ _ p hu
    | str z2 t2 => exact SeqAt.RcAt.list_str _ _ p hu
    | tup p2 => exact SeqAt.RcAt.list_tuple p p2 hu
    | lst p2 => cases hn
    | dic p2 => exact rc_Ld p2 hu p
  | dic p =>
    cases hy with
    | non => exact rc_dN p hu
    | bl b2 => exact rc_dB p hu _
    | int i2 t2 => exact rc_dI p hu _ _
    | str z2 t2 => exact rc_dS p hu _ _
    | tup p2 => exact rc_dT p hu p2
    | lst p2 => exact rc_dL p hu p2
    | dic p2 => cases hn
theorem rcN_unlike {A : Around} {u v : Value} {x y : D} (hu : A.units < cLine) (hx : Sh s u x) (hy : Sh s v y) (hn : unlike x y = true) (ho : neOk true x y = true) : SeqAt.RcNeAt A s u v (!eqS x y) := by
  cases hx with
  | non =>
    cases hy with
    | non => exact SeqAt.RcNeAt.none_none
    | bl b2 => exact SeqAt.RcNeAt.none_bool _
    | int i2 t2 => exact SeqAt.RcNeAt.none_int _ _
    | str z2 t2 => exact SeqAt.RcNeAt.none_str _ _
    | tup p2 => exact SeqAt.RcNeAt.none_tuple p2 hu
    | lst p2 => exact SeqAt.RcNeAt.none_list p2 hu
    | dic p2 => cases ho
  | bl b =>
    cases hy with
    | non => exact SeqAt.RcNeAt.bool_none _
    | bl b2 => exact SeqAt.RcNeAt.bool_bool _ _
    | int i2 t2 => exact SeqAt.RcNeAt.bool_int _ _ _
    | str z2 t2 => exact SeqAt.RcNeAt.bool_str _ _ _
    | tup p2 => exact SeqAt.RcNeAt.bool_tuple _ p2 hu
    | lst p2 => exact SeqAt.RcNeAt.bool_list _ p2 hu
    | dic p2 => cases ho
  | int i t =>
    cases hy with
    | non => exact SeqAt.RcNeAt.int_none _ _
    | bl b2 => exact SeqAt.RcNeAt.int_bool _ _ _
    | int i2 t2 => exact SeqAt.RcNeAt.int_int _ _ _ _
    | str z2 t2 => exact SeqAt.RcNeAt.int_str _ _ _ _
    | tup p2 => exact SeqAt.RcNeAt.int_tuple _ _ p2 hu
    | lst p2 => exact SeqAt.RcNeAt.int_list _ _ p2 hu
    | dic p2 => cases ho
  | str z t =>
    cases hy with
    | non => exact SeqAt.RcNeAt.str_none _ _
    | bl b2 => exact SeqAt.RcNeAt.str_bool _ _ _
    | int i2 t2 => exact SeqAt.RcNeAt.str_int _ _ _ _
    | str z2 t2 => exact SeqAt.RcNeAt.str_str _ _ _ _
    | tup p2 => exact SeqAt.RcNeAt.str_tuple _ _ p2 hu
    | lst p2 => exact SeqAt.RcNeAt.str_list _ _ p2 hu
    | dic p2 => cases ho
  | tup p =>
    cases hy with
    | non => exact SeqAt.RcNeAt.tuple_none p hu
    | bl b2 => exact SeqAt.RcNeAt.tuple_bool _ p hu
    | int i2 t2 => exact SeqAt.RcNeAt.tuple_int _ _ p hu
    | str z2 t2 => exact SeqAt.RcNeAt.tuple_str _ _ p hu
    | tup p2 => cases hn
    | lst p2 => exact SeqAt.RcNeAt.tuple_list p p2 hu
    | dic p2 => exact rcN_Td p2 hu p
  | lst p =>
    cases hy with
    | non => exact SeqAt.RcNeAt.list_none p hu
    | bl b2 => exact SeqAt.RcNeAt.list_bool _ p hu
    | int i2 t2 => exact SeqAt.RcNeAt.list_int _ _ p hu
    | str z2 t2 => exact SeqAt.RcNeAt.list_str _ _ p hu
    | tup p2 => exact SeqAt.RcNeAt.list_tuple p p2 hu
    | lst p2 => cases hn
    | dic p2 => cases ho
  | dic p =>
    cases hy with
    | non => cases ho
    | bl b2 => cases ho
    | int i2 t2 => cases ho
    | str z2 t2 => cases ho
    | tup p2 => exact rcN_dT p hu p2
    | lst p2 => cases ho
    | dic p2 => cases hn
theorem at_unlike {A : Around} {u v : Value} {x y : D} (hu : A.units < cLine) (hx : Sh s u x) (hy : Sh s v y) (hn : unlike x y = true) (hs : ¬ ∃ a c, u = .ref a ∧ v = .ref c) : SeqAt.EqAt A s u v (eqS x y) := by
  have hrc := rc_unlike hu hx hy hn
  cases hx with
  | non =>
    cases hy with
    | non => exact SeqAt.EqAt.same _
    | bl _ => exact eqB_none (by simp) hrc
    | int _ _ => exact eqB_none (by simp) hrc
    | str _ _ => exact eqB_none (by simp) hrc
    | tup _ => exact eqB_none (by simp) hrc
    | lst _ => exact eqB_none (by simp) hrc
    | dic _ => exact eqB_none (by simp) hrc
  | bl b =>
    cases hy with
    | non => exact eqB_bool _ (by simp) hrc
    | bl c => exact SeqAt.EqAt.bool_bool _ _
    | int _ _ => exact SeqAt.EqAt.bool_int _ _ _
    | str _ _ => exact eqB_bool _ (by simp) hrc
    | tup _ => exact eqB_bool _ (by simp) hrc
    | lst _ => exact eqB_bool _ (by simp) hrc
    | dic _ => exact eqB_bool _ (by simp) hrc
  | int i t =>
    cases hy with
    | non => exact eqB_int _ _ (by simp) hrc
    | bl c => exact SeqAt.EqAt.int_bool _ _ _
    | int _ _ => exact SeqAt.EqAt.int_int _ _ _ _
    | str _ _ => exact eqB_int _ _ (by simp) hrc
    | tup _ => exact eqB_int _ _ (by simp) hrc
    | lst _ => exact eqB_int _ _ (by simp) hrc
    | dic _ => exact eqB_int _ _ (by simp) hrc
  | str i t =>
    cases hy with
    | non => exact eqB_str _ _ (by simp) hrc
    | bl c => exact eqB_str _ _ (by simp) hrc
    | int _ _ => exact eqB_str _ _ (by simp) hrc
    | str _ _ => exact SeqAt.EqAt.str_str _ _ _ _
    | tup _ => exact eqB_str _ _ (by simp) hrc
    | lst _ => exact eqB_str _ _ (by simp) hrc
    | dic _ => exact eqB_str _ _ (by simp) hrc
  | tup _ =>
    cases hy with
    | non => exact eqB_ref _ (by simp) hrc
    | bl _ => exact eqB_ref _ (by simp) hrc
    | int _ _ => exact eqB_ref _ (by simp) hrc
    | str _ _ => exact eqB_ref _ (by simp) hrc
    | tup _ => exact (hs ⟨_, _, rfl, rfl⟩).elim
    | lst _ => exact (hs ⟨_, _, rfl, rfl⟩).elim
    | dic _ => exact (hs ⟨_, _, rfl, rfl⟩).elim
  | lst _ =>
    cases hy with
    | non => exact eqB_ref _ (by simp) hrc
    | bl _ => exact eqB_ref _ (by simp) hrc
    | int _ _ => exact eqB_ref _ (by simp) hrc
    | str _ _ => exact eqB_ref _ (by simp) hrc
    | tup _ => exact (hs ⟨_, _, rfl, rfl⟩).elim
    | lst _ => exact (hs ⟨_, _, rfl, rfl⟩).elim
    | dic _ => exact (hs ⟨_, _, rfl, rfl⟩).elim
  | dic _ =>
    cases hy with
    | non => exact eqB_ref _ (by simp) hrc
    | bl _ => exact eqB_ref _ (by simp) hrc
    | int _ _ => exact eqB_ref _ (by simp) hrc
    | str _ _ => exact eqB_ref _ (by simp) hrc
    | tup _ => exact (hs ⟨_, _, rfl, rfl⟩).elim
    | lst _ => exact (hs ⟨_, _, rfl, rfl⟩).elim
    | dic _ => exact (hs ⟨_, _, rfl, rfl⟩).elim
theorem deq_unlike {n : Nat} {x y : D} (h : unlike x y = true) : deq n x y = some (eqS x y) := by
  cases n <;> cases x <;> cases y <;> first | rfl | cases h
theorem at_of_rc (I : Inv X pins σ H s) {n : Nat} (rc : RcP X H ι s n) : AtP X H ι s n := by
  intro A x y b vx vy u v hu hx hy rx ry ru rv h
  by_cases hs : ∃ a c, u = .ref a ∧ v = .ref c
  · obtain ⟨a, c, rfl, rfl⟩ := hs
    by_cases hac : a = c
    · subst hac
      have : vx = vy := RelV.inj ru rv
      subst this
      have := RD.det I x y vx hx hy rx ry
      subst this
      rw [deq_same hx h]
      exact SeqAt.EqAt.same _
    · exact SeqAt.EqAt.of_refs hac ((rc A false x y b vx vy _ _ hu hx hy rfl (.inl rx) (.inl ry) ru rv h).1 rfl)
  · have sx := RDw.sh I (.inl rx) ru hx
    have sy := RDw.sh I (.inl ry) rv hy
    have hk : unlike x y = true := by
      cases sx <;> cases sy <;> first | rfl | exact (hs ⟨_, _, rfl, rfl⟩).elim
    rw [deq_unlike hk] at h
    cases h
    exact at_unlike (by omega) sx sy hk hs
theorem items_at (I : Inv X pins σ H s) {n : Nat} (ih : RcP X H ι s n) {A : Around} {xs ys : List D} {vs ws : List V} {us zs : List Value} {e : Nat → Bool} (hu : A.units + (n + 1) < cLine) (hx : datsB xs = true) (hy : datsB ys = true)
    (rx : RDs X.K H ι vs xs) (ry : RDs X.K H ι ws ys) (ru : Vals vs us) (rz : Vals ws zs) (he : ∀ j x y, xs[j]? = some x → ys[j]? = some y → deq n x y = some (e j)) :
    ∀ j (h1 : j < us.toArray.size) (h2 : j < zs.toArray.size), SeqAt.EqAt A.in1 s us.toArray[j] zs.toArray[j] (e j) := by
  intro j h1 h2
  have h1' : j < us.length := by simpa using h1
  have h2' : j < zs.length := by simpa using h2
  obtain ⟨v, d, g1, g2, g3⟩ := (rx.items ru).2 (List.getElem?_eq_getElem h1')
  obtain ⟨v', d', g4, g5, g6⟩ := (ry.items rz).2 (List.getElem?_eq_getElem h2')
  rw [datsB_all] at hx hy
  have := at_of_rc I ih A.in1 d d' (e j) v v' us[j] zs[j] (by show A.units + 1 + n < cLine; omega) (List.all_eq_true.mp hx d (List.mem_of_getElem? g1)) (List.all_eq_true.mp hy d' (List.mem_of_getElem? g4)) g3 g6 g2 g5 (he j d d' g1 g4)
  simpa using this
theorem deq_rc (I : Inv X pins σ H s) : ∀ n : Nat, RcP X H ι s n := by
  intro n
  induction n with
  | zero =>
    intro A neg x y b vx vy u v hu hx hy hn rx ry ru rv h
    by_cases hk : unlike x y = true
    · rw [deq_unlike hk] at h
      cases h
      exact ⟨fun e => rc_unlike (by omega) (rx.sh I ru hx) (ry.sh I rv hy) hk, fun e => by subst e; exact rcN_unlike (by omega) (rx.sh I ru hx) (ry.sh I rv hy) hk hn⟩
    · cases x <;> cases y <;> first | (exact (hk rfl).elim) | (cases h)
  | succ n ih =>
    intro A neg x y b vx vy u v hu hx hy hn rx ry ru rv h
    by_cases hk : unlike x y = true
    · rw [deq_unlike hk] at h
      cases h
      exact ⟨fun e => rc_unlike (by omega) (rx.sh I ru hx) (ry.sh I rv hy) hk, fun e => by subst e; exact rcN_unlike (by omega) (rx.sh I ru hx) (ry.sh I rv hy) hk hn⟩
    · cases x with
      | tup xs =>
        cases y with
        | tup ys =>
          obtain ⟨c, h1, h2⟩ := Option.map_eq_some_iff.mp (show (zipF (deq n) xs ys).map (fun b => b && xs.length == ys.length) = some b from h)
          subst h2
          obtain ⟨e, he, hc⟩ := zipF_at h1
          subst hc
          obtain ⟨_, _, rfl, g1, g2⟩ := rx.tup
          obtain ⟨_, _, rfl, g3, g4⟩ := ry.tup
          cases ru; cases rv
          obtain ⟨its, r1, p1, _⟩ := I.tuple g1
          obtain ⟨its', r2, p2, _⟩ := I.tuple g3
          have hit := items_at I ih (A := A) hu (by simpa [datB] using hx) (by simpa [datB] using hy) g2 g4 r1 r2 he
          have l1 : its.toArray.size = xs.length := by rw [← g2.length, r1.length]; simp
          have l2 : its'.toArray.size = ys.length := by rw [← g4.length, r2.length]; simp
          have q1 := SeqAt.RcAt.tuples (A := A) p1 p2 (by omega) hit
          have q2 := SeqAt.RcNeAt.tuples (A := A) p1 p2 (by omega) hit
          rw [l1, l2] at q1 q2
          exact ⟨fun _ => q1, fun _ => q2⟩
        | _ => exact (hk rfl).elim
      | lst xs =>
        cases y with
        | lst ys =>
          have h' : (if xs.length = ys.length then zipF (deq n) xs ys else some false) = some b := h
          obtain ⟨_, _, rfl, g1, g2⟩ := rx.lst
          obtain ⟨_, _, rfl, g3, g4⟩ := ry.lst
          cases ru; cases rv
          obtain ⟨its, r1, p1, _⟩ := I.list g1
          obtain ⟨its', r2, p2, _⟩ := I.list g3
          replace p1 := p1.isList
          replace p2 := p2.isList
          have l1 : its.toArray.size = xs.length := by rw [← g2.length, r1.length]; simp
          have l2 : its'.toArray.size = ys.length := by rw [← g4.length, r2.length]; simp
          split at h'
          · rename_i hl
            obtain ⟨e, he, hc⟩ := zipF_at h'
            subst hc
            have hit := items_at I ih (A := A) hu (by simpa [datB] using hx) (by simpa [datB] using hy) g2 g4 r1 r2 he
            have q1 := SeqAt.RcAt.lists (A := A) p1 p2 (by omega) (by omega) hit
            have q2 := SeqAt.RcNeAt.lists (A := A) p1 p2 (by omega) (by omega) hit
            have : min xs.length ys.length = its.toArray.size := by omega
            rw [this]
            exact ⟨fun _ => q1, fun _ => q2⟩
          · rename_i hl
            cases h'
            exact ⟨fun _ => SeqAt.RcAt.lists_lengths p1 p2 (by simp at l1 l2 ⊢; omega) (by omega), fun _ => SeqAt.RcNeAt.lists_lengths p1 p2 (by simp at l1 l2 ⊢; omega) (by omega)⟩
        | _ => exact (hk rfl).elim
      | dic ks ds =>
        cases y with
        | dic _ _ => cases h
        | _ => exact (hk rfl).elim
      | _ => cases y <;> exact (hk rfl).elim
end
end G

set_option Elab.async false
set_option linter.all false
set_option maxRecDepth 1000000
set_option maxHeartbeats 4000000
/-! GTN: tuples that are made have no dict of their own. -/
namespace G
variable [Wld]
open PySem PySem.Spec PyProof.Rows L2 HT
section
variable {X : Cx}
def rCatN (K : PySem.W.Frag) : R2 := fun x y H Q => ∃ a b xs ys, x = .ref a ∧ y = .ref b ∧ SqT K H a xs ∧ SqT K H b ys ∧ xs.length + ys.length ≤ sizeLine ∧
  (xs = [] → Q (.ref b) H) ∧ (xs ≠ [] → ys = [] → Q (.ref a) H) ∧ (xs ≠ [] → ys ≠ [] → ∀ p us, H p = none → Q (.ref p) (upd H p (.frz (tpo us) (.tup (xs ++ ys)))))
theorem op_catN : OpR X (binaryOp .Add) (rCatN X.K) := by
  intro pins s σ H x y v u Q I rx ry h
  obtain ⟨a, b, xs, ys, rfl, rfl, ha, hb, hz, q0, q1, q2⟩ := h
  cases rx
  cases ry
  obtain ⟨its, r1, p1, _⟩ := I.tuple ha
  obtain ⟨its2, r2, p2, _⟩ := I.tuple hb
  by_cases hx : xs = []
  · subst hx
    cases r1
    exact cat_tup0 p1 p2 ⟨.ref b, H, I, rfl, q0 rfl⟩
  · refine HT.cat_tup p1 p2 (fun z => hx (r1.nil_iff.mp z)) (fun z => ⟨.ref a, H, I, rfl, q1 hx (r2.nil_iff.mp z)⟩) (fun z => ?_) (by rw [← r1.length, ← r2.length]; exact hz)
    refine ⟨.ref s.heap.objs.size, _, I.laid (t' := s.toks) (o := .frz (tpo (its ++ its2)) (.tup (xs ++ ys))) (fun b ob q => Heap.get?_push_of_some _ q) (Nat.le_refl _) ?_, rfl, q2 hx (fun w => z (r2.nil_iff.mpr w)) _ _ (I.hok.fresh (Nat.le_refl _))⟩
    exact ⟨Heap.get?_push_size _ rfl, by rw [List.length_append]; exact hz, _, r1.append r2, IsTup.new _ _⟩
def rSlN (K : PySem.W.Frag) : V → Option Int → Option Int → Hp → VK → Prop := fun x lo hi H Q => ∃ a xs, x = .ref a ∧ SqT K H a xs ∧
  (HT.sIx xs.length 0 lo = 0 ∧ HT.sIx xs.length xs.length hi = xs.length → Q (.ref a) H) ∧ (¬ (HT.sIx xs.length 0 lo = 0 ∧ HT.sIx xs.length xs.length hi = xs.length) → ∀ p us, H p = none → Q (.ref p) (upd H p (.frz (tpo us) (.tup (cutV xs lo hi)))))
theorem sl_tupN : SlR X (rSlN X.K) := by
  intro pins s σ H x v vl vu lo hi sl Q I rx hs pl pu h
  obtain ⟨a, xs, rfl, hx, q1, q2⟩ := h
  cases rx
  obtain ⟨its, r, ht, hz⟩ := I.tuple hx
  have hlen : its.toArray.size = xs.length := by rw [List.size_toArray]; exact r.length.symm
  refine ⟨"tuple", _, PyProof.Rows.slot_tuple_getitem.lookup, ht.typeIs, ?_⟩
  by_cases hw : HT.sIx xs.length 0 lo = 0 ∧ HT.sIx xs.length xs.length hi = xs.length
  · exact getItem_tuple_whole ht hs pl pu (by rw [hlen]; exact hw) ⟨.ref a, H, I, rfl, q1 hw⟩
  · refine HT.getItem_tuple_cut ht hs pl pu (by rw [hlen]; exact hw) ?_ (by rw [hlen]; exact hz)
    rw [hlen]
    refine ⟨.ref s.heap.objs.size, _, I.laid (t' := s.toks) (o := .frz (tpo ((its.drop (HT.sIx xs.length 0 lo)).take (HT.sIx xs.length xs.length hi - HT.sIx xs.length 0 lo))) (.tup (cutV xs lo hi))) (fun b ob q => Heap.get?_push_of_some _ q) (Nat.le_refl _) ?_, rfl, q2 hw _ _ (I.hok.fresh (Nat.le_refl _))⟩
    exact ⟨Heap.get?_push_size _ rfl, Nat.le_trans (cutV_length xs lo hi) hz, _, (r.drop (HT.sIx xs.length 0 lo)).take (HT.sIx xs.length xs.length hi - HT.sIx xs.length 0 lo), IsTup.new _ _⟩
theorem call_tupleN : CallR X (.type "tuple") (fun xs H Q => ∃ p ys, xs = [.ref p] ∧ ((SqL X.K H p ys ∧ ∀ l us, H l = none → Q (.ref l) (upd H l (.frz (tpo us) (.tup ys)))) ∨ (SqT X.K H p ys ∧ Q (.ref p) H))) := by
  intro pins s σ H xs us Q I r h
  obtain ⟨p, ys, rfl, h⟩ := h
  obtain ⟨u, rfl, rx⟩ := vals1 r
  cases rx
  rcases h with ⟨hq, q⟩ | ⟨hq, q⟩
  · obtain ⟨its, r', pl, hz⟩ := I.list hq
    have hlen := r'.length
    refine call_tuple_list pl.isList (fun h' kp => ?_) (by simp only [List.size_toArray] <;> omega)
    have I1 : Inv X pins σ H { s with heap := h' } := I.kept (t' := s.toks) kp
    have I2 : Inv X pins σ (upd H h'.objs.size (.frz (tpo its) (.tup ys))) { s with heap := h'.push { cls := .type "tuple", data := .seq its.toArray } } :=
      I1.laid (t' := s.toks) (fun b o e => Heap.get?_push_of_some _ e) (Nat.le_refl _) (show ObjOk X.prog X.w _ _ _ (.frz (tpo its) (.tup ys)) from ⟨Heap.get?_push_size _ rfl, hz, its, r', IsTup.new _ _⟩)
    exact ⟨.ref h'.objs.size, _, I2, rfl, q _ _ (I1.hok.fresh (Nat.le_refl _))⟩
  · obtain ⟨its, r', pl, hz⟩ := I.tuple hq
    exact call_tuple_same pl ⟨.ref p, H, I, rfl, q⟩
end
end G

set_option Elab.async false
set_option linter.all false
set_option maxRecDepth 1000000
set_option maxHeartbeats 2000000
/-! G7: operators. -/
namespace G
variable [Wld]
open PySem PySem.Spec PyProof.Rows L2

/-- what a result is as data: an object by what it holds -/
def dat (r : R) (e : En) (S : Sto) : Option D := match r with
  | .d (.ref n) => match S[n]? with
    | some (.lst ds) => some (.lst ds)
    | _ => none
  | .d x => some x
  | r => match look r e S with
    | some (.lst ds) => some (.lst ds)
    | _ => none
theorem Rel.datW {K : PySem.W.Frag} {H : Hp} {ι : List Addr} {σ : SV} {e : En} {S : Sto} {v : V} {r : R} {d : D} (R : Rel K H ι σ e S) (hr : RR K H ι σ e v r) (h : dat r e S = some d) : RDw K H ι v d := by
  have viaL : ∀ {ds : List D}, G.look r e S = some (.lst ds) → d = .lst ds → RDw K H ι v d := fun {ds} hl hd => by
    subst hd
    obtain ⟨a, xs, rfl, h1, h2⟩ := R.lookL hr hl
    exact .inr ⟨a, xs, ds, rfl, rfl, h1, h2⟩
  unfold G.dat at h
  split at h
  · split at h
    · cases h
      exact viaL (by assumption) rfl
    · cases h
  · cases h
    exact .inl hr
  · split at h
    · cases h
      exact viaL (by assumption) rfl
    · cases h

def toV : D → V
  | .non => .non
  | .bl b => .bl b
  | .int i => .int i
  | .str x => .str x
  | _ => .non
theorem RD.flat {K : PySem.W.Frag} {H : Hp} {ι : List Addr} {v : V} {d : D} (h : RD K H ι v d) (f : flat d = true) : v = toV d ∧ flatV v = true := by
  cases h <;> first | exact ⟨rfl, rfl⟩ | (cases f; done)
theorem RDs.flat {K : PySem.W.Frag} {H : Hp} {ι : List Addr} : ∀ {vs : List V} {ds : List D}, RDs K H ι vs ds → ds.all G.flat = true → vs = ds.map toV ∧ vs.all flatV = true
  | _, [], .nil, _ => ⟨rfl, rfl⟩
  | _, d :: ds, .cons h1 h2, f => by
    rw [List.all_cons, Bool.and_eq_true] at f
    obtain ⟨a, b⟩ := h1.flat f.1
    obtain ⟨c, e⟩ := RDs.flat h2 f.2
    subst a
    exact ⟨by rw [List.map_cons, ← c], by rw [List.all_cons, b, e]; rfl⟩
theorem eqV_toV {x y : D} (fx : flat x = true) (fy : flat y = true) : eqV (toV x) (toV y) = eqS x y := by
  cases x <;> cases y <;> first | rfl | (cases fx; done) | (cases fy; done)
/-! ### == -/
def gEq (neg : Bool) (rx ry : R) : M R := fun e S => match dat rx e S, dat ry e S with
  | some x, some y => if datB x && datB y && neOk neg x y then (deq 60 x y).map fun b => (.d (.bl (b != neg)), e, S) else none
  | _, _ => none
section
variable {X : Cx}
theorem gEq_read {neg : Bool} {K : PySem.W.Frag} {x y : V} {H : Hp} {Q : VK} (q : tO2 K (gEq neg) x y H Q) :
    ∃ ι dx dy b, RDw K H ι x dx ∧ RDw K H ι y dy ∧ datB dx = true ∧ datB dy = true ∧ neOk neg dx dy = true ∧ deq 60 dx dy = some b ∧ Q (.bl (b != neg)) H := by
  obtain ⟨ι, σ, e, S, rx, ry, r, e', S', R, hx, hy, hm, q⟩ := q
  unfold gEq at hm
  split at hm
  · rename_i dx dy h1 h2
    split at hm
    · rename_i hc
      obtain ⟨b, hb, hz⟩ := Option.map_eq_some_iff.mp hm
      cases hz
      simp only [Bool.and_eq_true] at hc
      exact ⟨ι, dx, dy, b, R.datW hx h1, R.datW hy h2, hc.1.1, hc.1.2, hc.2, hb, q _ H ι R .refl (.bl _) trivial⟩
    · cases hm
  · cases hm
theorem gop_eq (hu : X.A.units + 64 < cLine) : OpR X (compareOp .Eq) (tO2 X.K (gEq false)) := fun pins s σ H x y v u Q I rx ry q => by
  obtain ⟨ι, dx, dy, b, h1, h2, h3, h4, h5, h6, h7⟩ := gEq_read q
  exact (deq_rc I 60 X.A false dx dy b x y v u (by omega) h3 h4 h5 h1 h2 rx ry h6).1 rfl X.prog X.w _ _ ⟨.bl _, H, I, rfl, by simpa using h7⟩
theorem gop_ne (hu : X.A.units + 64 < cLine) : OpR X (compareOp .NotEq) (tO2 X.K (gEq true)) := fun pins s σ H x y v u Q I rx ry q => by
  obtain ⟨ι, dx, dy, b, h1, h2, h3, h4, h5, h6, h7⟩ := gEq_read q
  exact (deq_rc I 60 X.A true dx dy b x y v u (by omega) h3 h4 h5 h1 h2 rx ry h6).2 rfl X.prog X.w _ _ ⟨.bl _, H, I, rfl, by simpa using h7⟩

/-! ### arithmetic, order, of data -/
/-- an operator on two data, none of them changed, the result data that needs no place -/
def gP (g : D → D → Option D) (rx ry : R) : M R := fun e S => match rx, ry with
  | .d x, .d y => (g x y).map fun d => (.d d, e, S)
  | _, _ => none
theorem gP_of {f : Value → Value → Sem Value} {r : R2} {g : D → D → Option D} (h : OpR X f r) (w : ∀ H ι x y dx dy d (Q : VK), RD X.K H ι x dx → RD X.K H ι y dy → g dx dy = some d → (∀ v, RD X.K H ι v d → Q v H) → r x y H Q) : OpR X f (tO2 X.K (gP g)) :=
  OpR.imp h fun x y H Q q => by
    obtain ⟨ι, σ, e, S, rx, ry, r, e', S', R, hx, hy, hm, q⟩ := q
    unfold gP at hm
    split at hm
    · obtain ⟨d, hd, hz⟩ := Option.map_eq_some_iff.mp hm
      cases hz
      exact w H ι x y _ _ d Q hx hy hd fun v rv => q v H ι R .refl rv trivial
    · cases hm
def dSub : D → D → Option D
  | .int i, .int j => some (.int (i - j))
  | .bl a, .int j => some (.int ((if a = true then 1 else 0) - j))
  | .int i, .bl b => some (.int (i - if b = true then 1 else 0))
  | _, _ => none
theorem op_subBI : OpR X (binaryOp .Sub) (fun x y H Q => ∃ a j, x = .bl a ∧ y = .int j ∧ Q (.int ((if a = true then 1 else 0) - j)) H) := fun pins s σ H x y v u Q I rx ry q => by
  obtain ⟨a, j, rfl, rfl, q⟩ := q
  obtain rfl : v = Value.bool a := rx
  obtain ⟨t, rfl⟩ := ry
  exact PySem.IntBool.sub_bool_int ⟨.int _, H, I.tok _, ⟨_, rfl⟩, q⟩
theorem op_subIB : OpR X (binaryOp .Sub) (fun x y H Q => ∃ i b, x = .int i ∧ y = .bl b ∧ Q (.int (i - if b = true then 1 else 0)) H) := fun pins s σ H x y v u Q I rx ry q => by
  obtain ⟨i, b, rfl, rfl, q⟩ := q
  obtain ⟨t, rfl⟩ := rx
  obtain rfl : u = Value.bool b := ry
  exact PySem.IntBool.sub_int_bool ⟨.int _, H, I.tok _, ⟨_, rfl⟩, q⟩
theorem op_addBI : OpR X (binaryOp .Add) (fun x y H Q => ∃ a j, x = .bl a ∧ y = .int j ∧ Q (.int ((if a = true then 1 else 0) + j)) H) := fun pins s σ H x y v u Q I rx ry q => by
  obtain ⟨a, j, rfl, rfl, q⟩ := q
  obtain rfl : v = Value.bool a := rx
  obtain ⟨t, rfl⟩ := ry
  exact PySem.IntBool.add_bool_int ⟨.int _, H, I.tok _, ⟨_, rfl⟩, q⟩
theorem gop_sub : OpR X (binaryOp .Sub) (tO2 X.K (gP dSub)) := gP_of (OpR.or op_sub (OpR.or op_subBI op_subIB)) fun H ι x y dx dy d Q hx hy hd q => by
  unfold dSub at hd
  split at hd <;> cases hd <;> cases hx <;> cases hy
  · exact .inl ⟨_, _, rfl, rfl, q _ (.int _)⟩
  · exact .inr (.inl ⟨_, _, rfl, rfl, q _ (.int _)⟩)
  · exact .inr (.inr ⟨_, _, rfl, rfl, q _ (.int _)⟩)
def dMod : D → D → Option D
  | .int i, .int j => if 0 < j then some (.int (i % j)) else none
  | _, _ => none
theorem gop_mod : OpR X (binaryOp .Mod) (tO2 X.K (gP dMod)) := gP_of op_mod fun H ι x y dx dy d Q hx hy hd q => by
  unfold dMod at hd
  split at hd
  · split at hd <;> cases hd
    cases hx; cases hy
    exact ⟨_, _, rfl, rfl, by assumption, q _ (.int _)⟩
  · cases hd
def dDiv : D → D → Option D
  | .int i, .int j => if 0 < j ∧ j < 1073741824 then some (.int (i / j)) else none
  | _, _ => none
theorem gop_div : OpR X (binaryOp .FloorDiv) (tO2 X.K (gP dDiv)) := gP_of op_fdiv fun H ι x y dx dy d Q hx hy hd q => by
  unfold dDiv at hd
  split at hd
  · split at hd <;> cases hd
    cases hx; cases hy
    exact ⟨_, _, rfl, rfl, by assumption, q _ (.int _)⟩
  · cases hd
def dPow : D → D → Option D
  | .int i, .int j => if 0 ≤ j ∧ j ≤ 1000 ∧ i.natAbs < 1000 then some (.int (i ^ j.toNat)) else none
  | _, _ => none
theorem gop_pow : OpR X (binaryOp .Pow) (tO2 X.K (gP dPow)) := gP_of op_pow fun H ι x y dx dy d Q hx hy hd q => by
  unfold dPow at hd
  split at hd
  · split at hd <;> cases hd
    rename_i h
    cases hx; cases hy
    exact ⟨_, _, rfl, rfl, ⟨h.1, by omega, Nat.lt_of_lt_of_le h.2.2 (by decide)⟩, q _ (.int _)⟩
  · cases hd
def small (i : Int) : Bool := decide (-(2 ^ 64) < i) && decide (i < 2 ^ 64)
def dMul : D → D → Option D
  | .int i, .int j => if small i || small j then some (.int (i * j)) else none
  | _, _ => none
theorem gop_mulI : OpR X (binaryOp .Mult) (tO2 X.K (gP dMul)) := gP_of op_mul fun H ι x y dx dy d Q hx hy hd q => by
  unfold dMul at hd
  split at hd
  · split at hd <;> cases hd
    rename_i h
    cases hx; cases hy
    refine ⟨_, _, rfl, rfl, ?_, q _ (.int _)⟩
    unfold small at h
    simp only [Bool.or_eq_true, Bool.and_eq_true, decide_eq_true_eq] at h
    exact h
  · cases hd
/-- order of numbers, of texts -/
def dLt : D → D → Option D
  | .int i, .int j => some (.bl (decide (i < j)))
  | .str i, .str j => some (.bl (decide (i.cps.toList < j.cps.toList)))
  | _, _ => none
def dLe : D → D → Option D
  | .int i, .int j => some (.bl (decide (i ≤ j)))
  | .str i, .str j => some (.bl (!decide (j.cps.toList < i.cps.toList)))
  | _, _ => none
theorem gop_lt : OpR X (compareOp .Lt) (tO2 X.K (gP dLt)) := gP_of (OpR.or op_lt op_lt_str) fun H ι x y dx dy d Q hx hy hd q => by
  unfold dLt at hd
  split at hd <;> cases hd <;> cases hx <;> cases hy
  · exact .inl ⟨_, _, rfl, rfl, q _ (.bl _)⟩
  · exact .inr ⟨_, _, rfl, rfl, q _ (.bl _)⟩
theorem gop_le : OpR X (compareOp .LtE) (tO2 X.K (gP dLe)) := gP_of (OpR.or op_le op_le_str) fun H ι x y dx dy d Q hx hy hd q => by
  unfold dLe at hd
  split at hd <;> cases hd <;> cases hx <;> cases hy
  · exact .inl ⟨_, _, rfl, rfl, q _ (.bl _)⟩
  · exact .inr ⟨_, _, rfl, rfl, q _ (.bl _)⟩
theorem gop_gt : OpR X (compareOp .Gt) (tO2 X.K (gP fun x y => dLt y x)) := gP_of (OpR.or op_gt op_gt_str) fun H ι x y dx dy d Q hx hy hd q => by
  unfold dLt at hd
  split at hd <;> cases hd <;> cases hx <;> cases hy
  · exact .inl ⟨_, _, rfl, rfl, q _ (.bl _)⟩
  · exact .inr ⟨_, _, rfl, rfl, q _ (.bl _)⟩
theorem gop_ge : OpR X (compareOp .GtE) (tO2 X.K (gP fun x y => dLe y x)) := gP_of (OpR.or op_ge op_ge_str) fun H ι x y dx dy d Q hx hy hd q => by
  unfold dLe at hd
  split at hd <;> cases hd <;> cases hx <;> cases hy
  · exact .inl ⟨_, _, rfl, rfl, q _ (.bl _)⟩
  · exact .inr ⟨_, _, rfl, rfl, q _ (.bl _)⟩

/-! ### is -/
def isNon : D → Bool
  | .non => true
  | _ => false
def gIsN (neg : Bool) (rx ry : R) : M R := fun e S => match rx, ry with
  | .d x, .d .non => some (.d (.bl (isNon x != neg)), e, S)
  | _, _ => none
theorem gIsN_read {neg : Bool} {K : PySem.W.Frag} {x y : V} {H : Hp} {Q : VK} (q : tO2 K (gIsN neg) x y H Q) : y = .non ∧ Q (.bl (decide (x = .non) != neg)) H := by
  obtain ⟨ι, σ, e, S, rx, ry, r, e', S', R, hx, hy, hm, q⟩ := q
  unfold gIsN at hm
  split at hm
  · cases hm
    rename_i _ _ dx
    cases hy
    refine ⟨rfl, ?_⟩
    have fin := q (.bl (isNon dx != neg)) H ι R .refl (.bl _) trivial
    have e : decide (x = V.non) = isNon dx := by
      have hx' : RD K H ι x dx := hx
      cases hx' <;> simp [isNon]
    rw [e]
    exact fin
  · cases hm
theorem gop_isN : OpR X (compareOp .Is) (tO2 X.K (gIsN false)) := OpR.imp op_isN fun x y H Q q => by
  obtain ⟨h1, h2⟩ := gIsN_read q
  exact ⟨h1, by simpa using h2⟩
theorem gop_notN : OpR X (compareOp .IsNot) (tO2 X.K (gIsN true)) := OpR.imp op_notN fun x y H Q q => by
  obtain ⟨h1, h2⟩ := gIsN_read q
  exact ⟨h1, by simpa using h2⟩
def dIsB (neg : Bool) : D → D → Option D
  | .bl a, .bl b => some (.bl (decide (a = b) != neg))
  | _, _ => none

/-! ### in -/
/-- the items of a sequence -/
def seqOf (r : R) (e : En) (S : Sto) : Option (List D) := match r with
  | .d (.tup ds) => some ds
  | r => match look r e S with
    | some (.lst ds) => some ds
    | _ => none
theorem Rel.seq {K : PySem.W.Frag} {H : Hp} {ι : List Addr} {σ : SV} {e : En} {S : Sto} {v : V} {r : R} {ds : List D} (R : Rel K H ι σ e S) (hr : RR K H ι σ e v r) (h : seqOf r e S = some ds) : ∃ a xs, v = .ref a ∧ (SqL K H a xs ∨ SqT K H a xs) ∧ RDs K H ι xs ds := by
  unfold seqOf at h
  split at h
  · cases h
    cases hr with | tup h1 h2 => exact ⟨_, _, rfl, .inr h1, h2⟩
  · split at h
    · cases h
      obtain ⟨a, xs, e1, h1, h2⟩ := R.lookL hr (by assumption)
      exact ⟨a, xs, e1, .inl h1, h2⟩
    · cases h
theorem Rel.seqN {K : PySem.W.Frag} {H : Hp} {ι : List Addr} {σ : SV} {e : En} {S : Sto} {v : V} {r : R} {ds : List D} (R : Rel K H ι σ e S) (hr : RR K H ι σ e v r) (h : seqOf r e S = some ds) : ∃ a xs, v = .ref a ∧ (SqL K H a xs ∨ SqTn K H a xs) ∧ RDs K H ι xs ds := by
  unfold seqOf at h
  split at h
  · cases h
    cases hr with | tup h1 h2 => exact ⟨_, _, rfl, .inr h1, h2⟩
  · split at h
    · cases h
      obtain ⟨a, xs, e1, h1, h2⟩ := R.lookL hr (by assumption)
      exact ⟨a, xs, e1, .inl h1, h2⟩
    · cases h
/-- x in ds: what each item tells -/
def inF (x : D) : List D → Option Bool
  | [] => some false
  | y :: ys => match deq 59 y x, inF x ys with
    | some a, some b => some (a || b)
    | _, _ => none
def gIn (neg : Bool) (rx ry : R) : M R := fun e S => match rx, ry with
  | .d (.str x), .d (.str z) => (match x.cps.toList with
    | [c] => some (.d (.bl (decide (c ∈ z.cps.toList) != neg)), e, S)
    | _ => none)
  | .d x, ry => (match seqOf ry e S with
    | some ds => if datB x && datsB ds then (inF x ds).map fun b => (.d (.bl (b != neg)), e, S) else none
    | none => none)
  | _, _ => none
theorem gIn_read {neg : Bool} {K : PySem.W.Frag} {x y : V} {H : Hp} {Q : VK} (q : tO2 K (gIn neg) x y H Q) :
    (∃ (c : Nat) (z : Str), x = .str ⟨#[c]⟩ ∧ y = .str z ∧ Q (.bl (decide (c ∈ z.cps.toList) != neg)) H) ∨ (∃ ι p xs d ds b, y = .ref p ∧ (SqL K H p xs ∨ SqT K H p xs) ∧ RD K H ι x d ∧ RDs K H ι xs ds ∧ datB d = true ∧ datsB ds = true ∧ inF d ds = some b ∧ Q (.bl (b != neg)) H) := by
  obtain ⟨ι, σ, e, S, rx, ry, r, e', S', R, hx, hy, hm, q⟩ := q
  unfold gIn at hm
  split at hm
  · split at hm
    · cases hm
      rename_i sx sz _ c hc
      cases hx; cases hy
      refine .inl ⟨c, sz, ?_, rfl, q _ H ι R .refl (.bl _) trivial⟩
      obtain ⟨⟨l⟩⟩ := sx
      simp at hc
      subst hc
      rfl
    · cases hm
  · split at hm
    · rename_i ds hds
      split at hm
      · rename_i hf
        obtain ⟨b, hb, hz⟩ := Option.map_eq_some_iff.mp hm
        cases hz
        rw [Bool.and_eq_true] at hf
        obtain ⟨a, xs, rfl, h1, h2⟩ := R.seq hy hds
        exact .inr ⟨ι, a, xs, _, ds, b, rfl, h1, hx, h2, hf.1, hf.2, hb, q _ H ι R .refl (.bl _) trivial⟩
      · cases hm
    · cases hm
  · cases hm
theorem inF_at {x : D} : ∀ {ds : List D} {b : Bool}, inF x ds = some b → (∀ d ∈ ds, ∃ a, deq 59 d x = some a) ∧ b = ds.any fun d => deq 59 d x == some true
  | [], b, h => by cases h; simp
  | d :: ds, b, h => by
    unfold inF at h
    split at h
    · rename_i a c h1 h2
      cases h
      obtain ⟨g1, g2⟩ := inF_at h2
      refine ⟨fun y hy => ?_, ?_⟩
      · rcases List.mem_cons.mp hy with rfl | hy
        · exact ⟨_, h1⟩
        · exact g1 y hy
      · rw [List.any_cons, h1, g2]
        cases a <;> rfl
    · cases h
open Classical in
/-- the item's data, told by the value alone -/
theorem in_go {pins : List (Addr × PySem.Obj)} {σ : SV} {H : Hp} {s : Shared} {ι : List Addr} {vx : V} {v : Value} {x : D} {xs : List V} {ds : List D} {its : List Value} {b : Bool} (I : Inv X pins σ H s) (hu : X.A.units + 64 < cLine) (hx : datB x = true) (hd : datsB ds = true)
    (rx : RD X.K H ι vx x) (rv : RelV vx v) (rd : RDs X.K H ι xs ds) (r : Vals xs its) (h : inF x ds = some b) : ∃ e : Value → Bool, (∀ y, y ∈ its → SeqAt.EqAt X.A.in1 s y v (e y)) ∧ its.any e = b := by
  obtain ⟨h1, h2⟩ := inF_at h
  rw [datsB_all] at hd
  have at' : ∀ (j : Nat) (y : Value), its[j]? = some y → ∃ vy d, ds[j]? = some d ∧ RelV vy y ∧ RD X.K H ι vy d := fun j y e => (rd.items r).2 e
  have one : ∀ (i j : Nat) (y : Value) (d d' : D), its[i]? = some y → its[j]? = some y → ds[i]? = some d → ds[j]? = some d' → d = d' := fun i j y d d' e1 e2 e3 e4 => by
    obtain ⟨v1, d1, q1, q2, q3⟩ := at' i y e1
    obtain ⟨v2, d2, q4, q5, q6⟩ := at' j y e2
    rw [e3] at q1; cases q1
    rw [e4] at q4; cases q4
    have := RelV.inj q2 q5
    subst this
    exact RD.det I d d' v1 (List.all_eq_true.mp hd d (List.mem_of_getElem? e3)) (List.all_eq_true.mp hd d' (List.mem_of_getElem? e4)) q3 q6
  refine ⟨fun y => decide (∃ (j : Nat) (d : D), its[j]? = some y ∧ ds[j]? = some d ∧ deq 59 d x = some true), fun y hy => ?_, ?_⟩
  · obtain ⟨j, hj⟩ := List.getElem?_of_mem hy
    obtain ⟨vy, d, q1, q2, q3⟩ := at' j y hj
    obtain ⟨a, ha⟩ := h1 d (List.mem_of_getElem? q1)
    have e : decide (∃ (j : Nat) (d : D), its[j]? = some y ∧ ds[j]? = some d ∧ deq 59 d x = some true) = a := by
      cases a with
      | true => exact decide_eq_true ⟨j, d, hj, q1, ha⟩
      | false =>
        refine decide_eq_false ?_
        rintro ⟨i, d', e1, e2, e3⟩
        rw [one i j y d' d e1 hj e2 q1, ha] at e3
        cases e3
    show SeqAt.EqAt X.A.in1 s y v (decide _)
    rw [e]
    exact at_of_rc I (deq_rc I 59) X.A.in1 d x a vy vx y v (by show X.A.units + 1 + 59 < cLine; omega) (List.all_eq_true.mp hd d (List.mem_of_getElem? q1)) hx q3 rx q2 rv ha
  · rw [h2, Bool.eq_iff_iff, List.any_eq_true, List.any_eq_true]
    constructor
    · rintro ⟨y, hy, hd'⟩
      obtain ⟨j, d, e1, e2, e3⟩ := of_decide_eq_true hd'
      exact ⟨d, List.mem_of_getElem? e2, by rw [e3]; rfl⟩
    · rintro ⟨d, hd1, hd2⟩
      obtain ⟨j, hj⟩ := List.getElem?_of_mem hd1
      have hl := (List.getElem?_eq_some_iff.mp hj).1
      have hl' : j < its.length := by rw [(rd.items r).1]; exact hl
      exact ⟨its[j], List.getElem_mem hl', decide_eq_true ⟨j, d, List.getElem?_eq_getElem hl', hj, by simpa using hd2⟩⟩
theorem gop_inQ (hu : X.A.units + 64 < cLine) : OpR X (compareOp .In) (fun x y H Q => ∃ ι p xs d ds b, y = .ref p ∧ (SqL X.K H p xs ∨ SqT X.K H p xs) ∧ RD X.K H ι x d ∧ RDs X.K H ι xs ds ∧ datB d = true ∧ datsB ds = true ∧ inF d ds = some b ∧ Q (.bl b) H) := fun pins s σ H x y v u Q I rx ry q => by
  obtain ⟨ι, p, xs, d, ds, b, rfl, hs, h1, h2, h3, h4, h5, h6⟩ := q
  cases ry
  rcases hs with hs | hs
  · obtain ⟨its, r, pl, _⟩ := I.list hs
    obtain ⟨e, g1, g2⟩ := in_go I hu h3 h4 h1 rx h2 r h5
    exact SeqAt.in_listAt e pl.isList (fun w hw => g1 w (by simpa using hw)) ⟨.bl _, H, I, rfl, by simpa [g2] using h6⟩
  · obtain ⟨its, r, pl, _⟩ := I.tuple hs
    obtain ⟨e, g1, g2⟩ := in_go I hu h3 h4 h1 rx h2 r h5
    exact SeqAt.in_tupleAt e pl (fun w hw => g1 w (by simpa using hw)) ⟨.bl _, H, I, rfl, by simpa [g2] using h6⟩
theorem gop_notInQ (hu : X.A.units + 64 < cLine) : OpR X (compareOp .NotIn) (fun x y H Q => ∃ ι p xs d ds b, y = .ref p ∧ (SqL X.K H p xs ∨ SqT X.K H p xs) ∧ RD X.K H ι x d ∧ RDs X.K H ι xs ds ∧ datB d = true ∧ datsB ds = true ∧ inF d ds = some b ∧ Q (.bl (!b)) H) := fun pins s σ H x y v u Q I rx ry q => by
  obtain ⟨ι, p, xs, d, ds, b, rfl, hs, h1, h2, h3, h4, h5, h6⟩ := q
  cases ry
  rcases hs with hs | hs
  · obtain ⟨its, r, pl, _⟩ := I.list hs
    obtain ⟨e, g1, g2⟩ := in_go I hu h3 h4 h1 rx h2 r h5
    exact SeqAt.notIn_listAt e pl.isList (fun w hw => g1 w (by simpa using hw)) ⟨.bl _, H, I, rfl, by simpa [g2] using h6⟩
  · obtain ⟨its, r, pl, _⟩ := I.tuple hs
    obtain ⟨e, g1, g2⟩ := in_go I hu h3 h4 h1 rx h2 r h5
    exact SeqAt.notIn_tupleAt e pl (fun w hw => g1 w (by simpa using hw)) ⟨.bl _, H, I, rfl, by simpa [g2] using h6⟩
theorem gop_in (hu : X.A.units + 64 < cLine) : OpR X (compareOp .In) (tO2 X.K (gIn false)) := OpR.imp (OpR.or op_in_sign (gop_inQ hu)) fun x y H Q q => by
  rcases gIn_read q with ⟨c, z, h1, h2, h3⟩ | ⟨ι, p, xs, d, ds, b, h1, h2, h3, h4, h5, h6, h7, h8⟩
  · exact .inl ⟨c, z, h1, h2, by simpa using h3⟩
  · exact .inr ⟨ι, p, xs, d, ds, b, h1, h2, h3, h4, h5, h6, h7, by simpa using h8⟩
theorem gop_notIn (hu : X.A.units + 64 < cLine) : OpR X (compareOp .NotIn) (tO2 X.K (gIn true)) := OpR.imp (OpR.or op_notIn_sign (gop_notInQ hu)) fun x y H Q q => by
  rcases gIn_read q with ⟨c, z, h1, h2, h3⟩ | ⟨ι, p, xs, d, ds, b, h1, h2, h3, h4, h5, h6, h7, h8⟩
  · exact .inl ⟨c, z, h1, h2, by simpa using h3⟩
  · exact .inr ⟨ι, p, xs, d, ds, b, h1, h2, h3, h4, h5, h6, h7, by simpa using h8⟩

/-! ### + -/
def notLst : R → Bool
  | .d (.lst _) => false
  | _ => true
def gAdd (rx ry : R) : M R := fun e S => match rx, ry with
  | .d (.int i), .d (.int j) => some (.d (.int (i + j)), e, S)
  | .d (.bl a), .d (.int j) => some (.d (.int ((if a = true then 1 else 0) + j)), e, S)
  | .d (.str x), .d (.str y) => if x.length + y.length ≤ 1000000 then some (.d (.str (x ++ y)), e, S) else none
  | .d (.tup xs), .d (.tup ys) => if xs.length + ys.length ≤ 1000000 then some (.d (.tup (xs ++ ys)), e, S) else none
  | rx, ry => (match look rx e S, look ry e S with
    | some (.lst xs), some (.lst ys) => if notLst rx && notLst ry && decide (xs.length + ys.length ≤ 1000000) then some (.new (.lst (xs ++ ys)), e, S) else none
    | _, _ => none)
theorem line_ge : 1000000 ≤ sizeLine := by rw [sizeLine_eq]; decide
theorem Rel.lookM {K : PySem.W.Frag} {H : Hp} {ι : List Addr} {σ : SV} {e : En} {S : Sto} {v : V} {r : R} {ds : List D} (R : Rel K H ι σ e S) (hr : RR K H ι σ e v r) (h : G.look r e S = some (.lst ds)) (hn : ∀ es, r ≠ .d (.lst es)) : ∃ a xs, v = .ref a ∧ H a = some (.lst xs) ∧ RDs K H ι xs ds := by
  cases r with
  | d x =>
    have hr' : RD K H ι v x := hr
    cases hr' with
    | lst _ _ => exact (hn _ rfl).elim
    | ref hi =>
      have h' : S[_]? = some _ := h
      obtain ⟨xs, h4, h5⟩ := R.st _ _ _ h' hi
      exact ⟨_, xs, rfl, h4, h5⟩
    | _ => cases h
  | new o => obtain ⟨a, rfl, ro, _⟩ := hr; cases h; obtain ⟨xs, h4, h5⟩ := ro; exact ⟨a, xs, rfl, h4, h5⟩
  | brw o => obtain ⟨a, rfl, ro, _⟩ := hr; cases h; obtain ⟨xs, h4, h5⟩ := ro; exact ⟨a, xs, rfl, h4, h5⟩
  | lm i cs => cases h
  | loc i =>
    have h' : (match e[i]? with
      | some (some (.own o)) => some o
      | _ => none) = some (O.lst ds) := h
    split at h'
    · cases h'
      rename_i he
      obtain ⟨w, hw, a, rfl, ro⟩ := R.sl _ _ he
      have hr' : σ[i]? = some (some v) := hr
      rw [hr'] at hw; cases hw
      obtain ⟨xs, h4, h5⟩ := ro
      exact ⟨a, xs, rfl, h4, h5⟩
    · cases h'
theorem gop_add : OpR X (binaryOp .Add) (tO2 X.K gAdd) := OpR.imp (OpR.or op_addBI (OpR.or (OpR.or op_add op_add_str) (OpR.or op_catN op_cat))) fun x y H Q q => by
  obtain ⟨ι, σ, e, S, rx, ry, r, e', S', R, hx, hy, hm, q⟩ := q
  unfold gAdd at hm
  split at hm
  · cases hm
    cases hx; cases hy
    exact .inr (.inl (.inl ⟨_, _, rfl, rfl, q _ H ι R .refl (.int _) trivial⟩))
  · cases hm
    cases hx; cases hy
    exact .inl ⟨_, _, rfl, rfl, q _ H ι R .refl (.int _) trivial⟩
  · split at hm
    · cases hm
      cases hx; cases hy
      exact .inr (.inl (.inr ⟨_, _, rfl, rfl, Nat.le_trans (by assumption) line_ge, q _ H ι R .refl (.str _) trivial⟩))
    · cases hm
  · split at hm
    · cases hm
      rename_i hz
      cases hx with
      | tup h1 h2 =>
        cases hy with
        | tup h3 h4 =>
          have l1 := h2.length
          have l2 := h4.length
          refine .inr (.inr (.inl ⟨_, _, _, _, rfl, rfl, h1.sq, h3.sq, Nat.le_trans (by omega) line_ge, fun e0 => ?_, fun _ e0 => ?_, fun _ _ p us hp => ?_⟩))
          · subst e0
            cases h2
            exact q _ H ι R .refl (.tup h3 (by simpa using h4)) trivial
          · subst e0
            cases h4
            exact q _ H ι R .refl (.tup h1 (by simpa using h2)) trivial
          · obtain ⟨R2, P2, _⟩ := R.new (u := .frz (tpo us) (.tup _)) hp
            exact q _ _ ι R2 P2 (.tup .mk (RDs.mono P2.stay P2.pre _ _ (h2.append h4))) trivial
    · cases hm
  · split at hm
    · rename_i xs ys g1 g2
      split at hm
      · cases hm
        rename_i hz
        simp only [Bool.and_eq_true, decide_eq_true_eq] at hz
        obtain ⟨a, us, rfl, k1, k2⟩ := R.lookM hx g1 fun es z => by subst z; cases hz.1.1
        obtain ⟨b, ws, rfl, k3, k4⟩ := R.lookM hy g2 fun es z => by subst z; cases hz.1.2
        refine .inr (.inr (.inr ⟨a, b, us, ws, rfl, rfl, k1, k3, Nat.le_trans (by rw [k2.length, k4.length]; exact hz.2) line_ge, fun p hp => ?_⟩))
        obtain ⟨R2, P2, m1, m2⟩ := R.new (u := .lst (us ++ ws)) hp
        exact q _ _ ι R2 P2 ⟨p, rfl, ⟨_, upd_same, RDs.mono P2.stay P2.pre _ _ (k2.append k4)⟩, m1, m2⟩ ⟨p, rfl, hp⟩
      · cases hm
    · cases hm
/-! ### - a -/
def gNeg (rx : R) : M R := match rx with
  | .d (.int i) => pur (.d (.int (-i)))
  | _ => stk
theorem gun_neg : UnR X (unaryOp .USub) (tO1 X.K gNeg) := UnR.imp un_neg fun x H Q q => by
  obtain ⟨ι, σ, e, S, rx, r, e', S', R, hx, hm, q⟩ := q
  unfold gNeg at hm
  split at hm
  · cases hm
    cases hx
    exact ⟨_, rfl, q _ H ι R .refl (.int _) trivial⟩
  · cases hm
/-! ### chains -/
def mChain (g g' : R → R → M R) (ma mb mc : M R) : M R := bnd ma fun x => bnd mb fun y => bnd (bnd (g x y) asB) fun k => if k = true then bnd mc fun w => g' y w else pur (.d (.bl false))
variable {a b c : Expr} {ma mb mc : M R} {pos : Pos} {op op' : CmpOp} {g g' : R → R → M R}
theorem tG_chain {K : PySem.W.Frag} {σ : SV} {H : Hp} {Q : VK} (h : tG K (mChain g g' ma mb mc) σ H Q) : tChain (tO2 K g) (tO2 K g') (tG K ma) (tG K mb) (tG K mc) σ H Q := by
  obtain ⟨ι, e, S, r, e', S', R, hm, q⟩ := h
  obtain ⟨x, e1, S1, h1, hm⟩ := bnd_eq hm
  obtain ⟨y, e2, S2, h2, hm⟩ := bnd_eq hm
  obtain ⟨k, e3, S3, h3, hm⟩ := bnd_eq hm
  obtain ⟨z, e4, S4, h4, h5⟩ := bnd_eq h3
  refine ⟨ι, e, S, x, e1, S1, R, h1, fun v H1 ι1 R1 P1 r1 _ => ⟨ι1, e1, S1, y, e2, S2, R1, h2, fun w H2 ι2 R2 P2 r2 _ =>
    ⟨ι2, σ, e2, S2, x, y, z, e4, S4, R2, r1.post P2, r2, h4, fun v3 H3 ι3 R3 P3 r3 _ => ?_⟩⟩⟩
  unfold asB at h5
  split at h5
  · cases h5
    cases r3
    refine ⟨_, rfl, ?_⟩
    have P13 := (P1.trans P2).trans P3
    cases k with
    | true =>
      refine iteT ?_
      obtain ⟨w', e5, S5, h6, hm⟩ := bnd_eq (show bnd mc (fun w => g' y w) e3 S3 = some (r, e', S') from hm)
      exact ⟨ι3, e3, S3, w', e5, S5, R3, h6, fun v4 H4 ι4 R4 P4 r4 _ => ⟨ι4, σ, e5, S5, y, w', r, e', S', R4, (r2.post P3).post P4, r4, hm, fun v5 H5 ι5 R5 P5 r5 f5 => q v5 H5 ι5 R5 ((P13.trans P4).trans P5) r5 (f5.back (P13.trans P4))⟩⟩
    | false =>
      refine iteF ?_
      cases (show pur (G.R.d (.bl false)) e3 S3 = some (r, e', S') from hm)
      exact q _ H3 ι3 R3 P13 (.bl false) trivial
  · cases h5
theorem ge_chain (ho : OpR X (compareOp op) (tO2 X.K g)) (ho' : OpR X (compareOp op') (tO2 X.K g')) (ha : GE X a ma) (hb : GE X b mb) (hc : GE X c mc)
    (hm : lastMarks [op, op'] [b, c] = false := by with_unfolding_all rfl) : GE X (.Compare a [op, op'] [b, c] pos) (mChain g g' ma mb mc) := PE.imp (pe_chain ho ho' ha hb hc hm) fun σ H Q q => tG_chain q
end
end G

set_option Elab.async false
set_option linter.all false
set_option maxRecDepth 1000000
set_option maxHeartbeats 2000000
/-! G8: a, *b = t. -/
namespace G
variable [Wld]
open PySem PySem.Spec PyProof.Rows L2
/-- a walk that begins one item later -/
theorem shiftW {prog : Program} {w : World} {A : Around} {I : Addr} {fp wr : List Addr} {Gn : Array GenState → Array GenState → Prop} {n : Nat} {P : Nat → Value → Prop} {Sx : Nat → Shared → Prop} (W : WalksS prog w A I fp wr Gn (n + 1) P Sx) :
    WalksS prog w A I fp wr Gn n (fun i v => P (i + 1) v) (fun i s => Sx (i + 1) s) :=
  ⟨W.sub, W.grefl, W.gtrans, fun i s h tk st => W.frame (i + 1) s h tk st, fun i s Q E hi st k => W.item (i + 1) s Q E (Nat.succ_lt_succ hi) st k, fun s Q E st k => W.done s Q E st k, fun i s Q E st k => W.self (i + 1) s Q E st k⟩
theorem notIter_tuple {M : Model} {A : Around} {E : Value → Shared → Prop} {s : Shared} {t : Addr} {items : Array Value} {Q : Bool → Shared → Prop} (ht : IsTup s.heap t items) (h : Q false s) : wpAny M A (notIterableAtAll (.ref t)) Q E s := by
  unfold notIterableAtAll
  exact wpAny_bind (wpAny_specialOf ht.typeIs slot_tuple_iter.lookup (wpAny_pure h))
section
variable {prog : Program} {w : World} {A : Around} {E : Value → Shared → Prop} {s : Shared}
theorem unpack_star1 {t : Addr} {x : Value} {its : List Value} {Q : List Value → Shared → Prop} (hh : A.handled = none) (hz : its.length ≤ sizeLine) (ht : IsTup s.heap t (x :: its).toArray)
    (q : ∀ (h' : Heap) (tk : Nat), (∀ b o, s.heap.get? b = some o → h'.get? b = some o) →
      Q [x, .ref h'.objs.size] { s with heap := h'.push { cls := .type "list", data := .seq its.toArray }, toks := tk }) : wpAny (model prog w) A (unpackItems (.ref t) 2 (some 1)) Q E s := by
  have hlt : t ≠ s.heap.objs.size := by obtain ⟨o, ho, _⟩ := ht; exact Nat.ne_of_lt (Heap.lt_size ho)
  unfold unpackItems
  refine wpAny_bind (notIter_tuple ht ?_)
  rw [if_neg Bool.false_ne_true]
  refine wpAny_bind (wpAny_holding (iter_tuple ht ?_))
  refine wpAny_bind (wpAny_holding (draw_tuple hlt 1 0 _ _ ⟨_, Heap.get?_push_size _ rfl, rfl, rfl⟩ (ht.push _) (by simp) fun h1 hit1 hs1 => ?_))
  have e1 : ((x :: its).toArray.toList.drop 0).take 1 = [x] := by simp
  rw [e1]
  rw [if_neg (by simp)]
  have ht1 : IsTup h1 t (x :: its).toArray := (ht.push _).extBut hs1.extBut hlt
  have W := shiftW (n := its.length) (by
    have z := (Walks.tuple (prog := prog) (w := w) (A := A.in1) (by simpa using hh) s.heap.objs.size t hlt (x :: its).toArray).toS
    have e : (x :: its).toArray.size = its.length + 1 := by simp
    rw [e] at z
    exact z)
  have it1 : h1.IsTupleIter s.heap.objs.size t 1 := hit1
  refine wpAny_bind (wpAny_holding (wpAny_collect_iter (T := "tuple_iterator") (.inr (.inr (.inr rfl))) W (fun i s' st => ?_) ⟨it1, ht1⟩ (fun b hb => ?_) (by simp) (fun s2 acc mv hacc => ?_) hz))
  · obtain ⟨⟨o, ho, hc, _⟩, _⟩ := st
    exact ⟨o, ho, hc⟩
  · have hb' : b = s.heap.objs.size ∨ b = t := by simpa using hb
    rcases hb' with rfl | rfl
    · obtain ⟨o, ho, _⟩ := it1
      exact Heap.lt_size ho
    · obtain ⟨o, ho, _⟩ := ht1
      exact Heap.lt_size ho
  · have eacc : acc.toList = its := by
      apply List.ext_getElem?
      intro j
      obtain ⟨hs, hi⟩ := hacc
      by_cases hj : j < acc.size
      · have := hi j acc[j] (Array.getElem?_eq_getElem hj)
        have e2 : its[j]? = some acc[j] := by simpa using this
        rw [Array.getElem?_toList, Array.getElem?_eq_getElem hj, e2]
      · rw [Array.getElem?_toList, Array.getElem?_eq_none (by omega), List.getElem?_eq_none (by omega)]
    rw [eacc]
    rw [if_neg (by simp)]
    have e3 : its.take (its.length - (2 - 1 - 1)) = its := by simp
    have e4 : its.drop (its.length - (2 - 1 - 1)) = [] := by simp
    show wpAny _ _ (newList (its.take (its.length - (2 - 1 - 1))) >>= fun l => pure ([x] ++ [l] ++ its.drop (its.length - (2 - 1 - 1)))) _ _ _
    rw [e3, e4]
    refine wpAny_bind (wpAny_newList (wpAny_pure ?_) hz)
    obtain ⟨h2, g2, d2, t2, o2⟩ := s2
    obtain ⟨mh, mg, md, mo, mt⟩ := mv
    have eg : g2 = s.gens := mg
    have ed : d2 = s.drawn := md
    have eo : o2 = s.os := mo
    subst eg ed eo
    have keep : ∀ b o, s.heap.get? b = some o → h2.get? b = some o := fun b o e => by
      have hb : b ≠ s.heap.objs.size := Nat.ne_of_lt (Heap.lt_size e)
      refine mh b o (by simp [hb]) ?_
      exact hs1.extBut b o hb (Heap.get?_push_of_some _ e)
    exact q h2 t2 keep
end
section
variable {X : Cx}
def gStarT (K : PySem.W.Frag) (i j : Nat) : TG := fun v σ H Q => ∃ a x xs, v = .ref a ∧ SqT K H a (x :: xs) ∧ ∀ p, H p = none → Q ((σ.set i (some x)).set j (some (.ref p))) (upd H p (.lst xs))
theorem pg_star1 {i j : Nat} {x y : Str} {px py p2 pos : Pos} {k : Nat} (hc : X.calm = true) (hN : X.N.Nodup) (hi : X.N[i]? = some x) (hx : Loc X.env.scope x) (hj : X.N[j]? = some y) (hy : Loc X.env.scope y)
    (hfx : X.fn x = true ∨ X.env.scope.names.lookup x = some .local := by first | exact .inl rfl | exact .inr rfl | assumption) (hfy : X.fn y = true ∨ X.env.scope.names.lookup y = some .local := by first | exact .inl rfl | exact .inr rfl | assumption) :
    PG X (.Tuple [.Name x px, .Starred (.Name y py) p2] k pos) (gStarT X.K i j) := by
  refine ⟨fun pins s σ H v u Q I r hw => ?_⟩
  obtain ⟨a, vx, xs, e1, hq, q⟩ := hw
  subst e1
  cases r
  obtain ⟨its, rv, ht, hz⟩ := I.tuple hq
  cases rv with
  | cons r1 r2 =>
    rename_i ux us
    rw [assign_Tuple]
    refine wpAny_bind (wpAny_standAt ?_)
    show wpAny _ _ (unpack (.ref a) [(false, assign (.Name x px) X.env), (true, assign (.Name y py) X.env)]) _ _ _
    unfold unpack
    have hl := r2.length
    refine wpAny_bind (wpAny_holding (unpack_star1 (I.ok.hd hc) (by simp at hz; omega) ht fun h' tk keep => ?_))
    have I1 : Inv X pins σ H { s with heap := h', toks := tk } := I.kept keep
    have hp : H h'.objs.size = none := I1.hok.fresh (Nat.le_refl _)
    have I2 : Inv X pins σ (upd H h'.objs.size (.lst xs)) { s with heap := h'.push { cls := .type "list", data := .seq us.toArray }, toks := tk } := I1.laid (t' := tk) (fun b o e => Heap.get?_push_of_some _ e) (Nat.le_refl _) ⟨by simp at hz; omega, us, _, r2, Heap.get?_push_size _ rfl⟩
    show wpAny _ _ (assignInOrder [assign (.Name x px) X.env, assign (.Name y py) X.env] [ux, .ref h'.objs.size]) _ _ _
    refine assignInOrder_cons (wpAny_assign_Name (store_ok I2 hN hi hx r1 (fun s2 I3 => ?_) hfx))
    refine assignInOrder_cons (wpAny_assign_Name (store_ok (v := .ref h'.objs.size) I3 hN hj hy rfl (fun s3 I4 => assignInOrder_nil ⟨_, _, I4, q _ hp⟩) hfy))
/-- a, *b = t -/
def starE (i j : Nat) (r : R) : M Fl := fun e S => match r with
  | .d (.tup (d :: ds)) => if i < e.length ∧ j < e.length then some (.nx, (e.set i (some (.d d))).set j (some (.own (.lst ds))), S) else none
  | _ => none
theorem starE_eq {i j : Nat} {r : R} {e : En} {S : Sto} {z} (h : starE i j r e S = some z) : ∃ d ds, r = .d (.tup (d :: ds)) ∧ i < e.length ∧ j < e.length ∧ z = (.nx, (e.set i (some (.d d))).set j (some (.own (.lst ds))), S) := by
  unfold starE at h
  split at h
  · split at h
    · rename_i hl
      exact ⟨_, _, rfl, hl.1, hl.2, (Option.some.inj h).symm⟩
    · cases h
  · cases h
def mStar (i j : Nat) (m : M R) : M Fl := bnd m (starE i j)
theorem gs_star {i j : Nat} {x y : Str} {px py p2 pt pos : Pos} {k : Nat} {ex : Expr} {m : M R} (hc : X.calm = true) (hN : X.N.Nodup) (hi : X.N[i]? = some x) (hx : Loc X.env.scope x) (hj : X.N[j]? = some y) (hy : Loc X.env.scope y) (he : GE X ex m)
    (hs : swapsWithSole [.Tuple [.Name x px, .Starred (.Name y py) p2] k pt] ex pos.line X.env = pure false := by rfl) (hw : swappedStores [.Tuple [.Name x px, .Starred (.Name y py) p2] k pt] ex X.env = pure none := by rfl)
    (hfx : X.fn x = true ∨ X.env.scope.names.lookup x = some .local := by first | exact .inl rfl | exact .inr rfl | assumption) (hfy : X.fn y = true ∨ X.env.scope.names.lookup y = some .local := by first | exact .inl rfl | exact .inr rfl | assumption) :
    GS X (.Assign [.Tuple [.Name x px, .Starred (.Name y py) p2] k pt] ex pos) (mStar i j m) := PS.imp (ps_asg he (pg_star1 hc hN hi hx hj hy hfx hfy) hs hw) fun D σ H q => by
  obtain ⟨ι, e, S, fl, e', S', R, hm, q⟩ := q
  obtain ⟨r, e1, S1, h1, hm⟩ := bnd_eq hm
  obtain ⟨d, ds, rfl, hli, hlj, hz⟩ := starE_eq hm
  cases hz
  refine ⟨ι, e, S, _, e1, _, R, h1, fun v H1 ι1 R1 P1 r1 f1 => ?_⟩
  cases r1 with
  | tup g1 g2 =>
    cases g2 with
    | cons g3 g4 =>
      rename_i a vx vs
      refine ⟨_, _, _, rfl, g1.sq, fun p hp => ?_⟩
      obtain ⟨R2, P2, n1, n2⟩ := R1.new (u := .lst vs) hp
      have P12 := P1.trans P2
      obtain ⟨R3, P3⟩ := R2.put (r := .d d) P12 (RD.mono P2.stay P2.pre _ _ g3) trivial rfl hli
      have hl2 : j < (e1.set i (some (Sl.d d))).length := by simpa using hlj
      have hσ : i < σ.length := by rw [R1.len]; exact hli
      have nO : ¬ Obj (σ.set i (some vx)) (e1.set i (some (.d d))) p := fun ⟨m, t, h5, h6, h7⟩ => by
        by_cases hm : i = m
        · subst hm
          rw [List.getElem?_set_self hli] at h5
          cases h5
          exact h6.elim
        · rw [List.getElem?_set_ne hm] at h5 h7
          exact n2 ⟨m, t, h5, h6, h7⟩
      obtain ⟨R4, P4⟩ := R3.put (r := .new (.lst ds)) P3 ⟨p, rfl, ⟨vs, upd_same, RDs.mono P2.stay P2.pre _ _ g4⟩, n1, nO⟩ ⟨p, rfl, P1.back hp⟩ rfl hl2
      exact q _ _ ι1 R4 P4
end
end G

set_option Elab.async false
set_option linter.all false
set_option maxRecDepth 1000000
set_option maxHeartbeats 2000000
/-! G9: subscripts, slices, built-ins, methods. -/
namespace G
variable [Wld]
open PySem PySem.Spec PyProof.Rows L2

theorem PE.or {X : Cx} {ex : Expr} {t t' : TE} (h : PE X ex t) (h' : PE X ex t') : PE X ex (fun σ H Q => t σ H Q ∨ t' σ H Q) := ⟨fun pins s σ H Q I q => q.elim (h.run pins s σ H Q I) (h'.run pins s σ H Q I)⟩
/-! ### subscripts -/
def keyOf : D → Option Key
  | .int i => some (.inl i)
  | .str x => some (.inr x)
  | _ => none
def valD (kvs : List (Key × D)) (k : Key) : Option D := (kvs.find? fun kv => decide (kv.1 = k)).map (·.2)
def atD (ds : List D) (i : Int) : Option D := atI ds i
def gIx (rx ry : R) : M R := fun e S => match rx, ry with
  | .d (.tup ds), .d (.int i) => (atD ds i).map fun d => (.d d, e, S)
  | .d (.str z), .d (.int i) => if z.length ≤ 1000000 then (atI z.cps.toList i).map fun c => (.d (.str ⟨#[c]⟩), e, S) else none
  | rx, .d y => (match look rx e S with
    | some (.lst ds) => (match y with
      | .int i => (atD ds i).map fun d => (.d d, e, S)
      | _ => none)
    | some (.dct kvs) => (keyOf y).bind fun k => (valD kvs k).map fun d => (.d d, e, S)
    | _ => none)
  | _, _ => none
section
variable {K : PySem.W.Frag} {H : Hp} {ι : List Addr}
theorem RDs.atI {vs : List V} {ds : List D} {i : Int} {d : D} (h : RDs K H ι vs ds) (e : L2.atI ds i = some d) : ∃ v, L2.atI vs i = some v ∧ RD K H ι v d := by
  unfold L2.atI at e ⊢
  obtain ⟨j, h1, h2⟩ := Option.bind_eq_some_iff.mp e
  obtain ⟨v, h3, h4⟩ := h.get h2
  exact ⟨v, by rw [h.length, h1]; exact h3, h4⟩
theorem keyOf_v {v : V} {d : D} {k : Key} (h : RD K H ι v d) (e : keyOf d = some k) : v = kV k := by
  cases h <;> cases e <;> rfl
theorem RK.val {ws : List (Key × V)} {kvs : List (Key × D)} (h : RK K H ι ws kvs) (k : Key) : (∀ d, valD kvs k = some d → ∃ v, valV ws k = some v ∧ RD K H ι v d) ∧ (valD kvs k = none → valV ws k = none) := by
  induction h with
  | nil => exact ⟨fun d e => (by cases e), fun _ => rfl⟩
  | cons h1 _ ih =>
    rename_i p q ps qs _
    obtain ⟨e1, r⟩ := h1
    by_cases hk : q.1 = k
    · have hv : valD (q :: qs) k = some q.2 := by simp [valD, List.find?_cons, hk]
      rw [hv]
      exact ⟨fun d e => (by cases e; exact ⟨p.2, valV_pos (e1.trans hk), r⟩), fun e => (by cases e)⟩
    · have hv : valD (q :: qs) k = valD qs k := by simp [valD, List.find?_cons, hk]
      rw [hv, valV_neg (fun z => hk (e1 ▸ z))]
      exact ih
end
section
variable {X : Cx} {a b : Expr} {ma mb : M R} {pos : Pos}
theorem ge_ix (hu : X.A.units + 1 < cLine) (ha : GE X a ma) (hb : GE X b mb) (hs : PlainIx b := by exact fun _ _ => rfl) (hs2 : NoSl b := by exact fun _ _ => rfl) : GE X (.Subscript a b pos) (mBin gIx ma mb) :=
  PE.imp (PE.or (PE.or (pe_ix (IxR.or ix_list ix_tup) ha hb hs) (pe_ix ix_str ha hb hs)) (pe_dget hu ha hb hs2)) fun σ H Q q => by
    obtain ⟨ι, e, S, r, e', S', R, hm, q⟩ := q
    obtain ⟨x, e1, S1, h1, hm⟩ := bnd_eq hm
    obtain ⟨y, e2, S2, h2, hm⟩ := bnd_eq hm
    unfold gIx at hm
    split at hm
    · rename_i ds i
      obtain ⟨d, hd, hz⟩ := Option.map_eq_some_iff.mp hm
      cases hz
      refine .inl (.inl ⟨ι, e, S, _, e1, S1, R, h1, fun v H1 ι1 R1 P1 r1 _ => ⟨ι1, e1, S1, _, _, _, R1, h2, fun w H2 ι2 R2 P2 r2 _ => ?_⟩⟩)
      have r1' := r1.post P2
      cases r2
      cases r1' with
      | tup g1 g2 =>
        obtain ⟨z, hz, rz⟩ := g2.atI hd
        exact .inr ⟨_, _, _, z, rfl, rfl, g1, hz, q _ H2 ι2 R2 (P1.trans P2) rz trivial⟩
    · rename_i z i
      split at hm
      · rename_i hl
        obtain ⟨c, hc, hz⟩ := Option.map_eq_some_iff.mp hm
        cases hz
        refine .inl (.inr ⟨ι, e, S, _, e1, S1, R, h1, fun v H1 ι1 R1 P1 r1 _ => ⟨ι1, e1, S1, _, _, _, R1, h2, fun w H2 ι2 R2 P2 r2 _ => ?_⟩⟩)
        cases r1; cases r2
        exact ⟨_, _, c, rfl, rfl, Nat.le_trans hl line_ge, hc, q _ H2 ι2 R2 (P1.trans P2) (.str _) trivial⟩
      · cases hm
    · split at hm
      · rename_i ds hlk
        split at hm
        · rename_i i
          obtain ⟨d, hd, hz⟩ := Option.map_eq_some_iff.mp hm
          cases hz
          refine .inl (.inl ⟨ι, e, S, _, e1, S1, R, h1, fun v H1 ι1 R1 P1 r1 _ => ⟨ι1, e1, S1, _, _, _, R1, h2, fun w H2 ι2 R2 P2 r2 _ => ?_⟩⟩)
          obtain ⟨p, xs, rfl, g1, g2⟩ := R2.lookL (r1.post P2) hlk
          cases r2
          obtain ⟨z, hz, rz⟩ := g2.atI hd
          exact .inl ⟨_, _, _, z, rfl, rfl, g1, hz, q _ H2 ι2 R2 (P1.trans P2) rz trivial⟩
        · cases hm
      · rename_i kvs hlk
        obtain ⟨k, hk, hm⟩ := Option.bind_eq_some_iff.mp hm
        obtain ⟨d, hd, hz⟩ := Option.map_eq_some_iff.mp hm
        cases hz
        refine .inr ⟨ι, e, S, _, e1, S1, R, h1, fun v H1 ι1 R1 P1 r1 _ => ⟨ι1, e1, S1, _, _, _, R1, h2, fun w H2 ι2 R2 P2 r2 _ => ?_⟩⟩
        obtain ⟨p, ws, rfl, g1, g2⟩ := R2.lookD (r1.post P2) hlk
        obtain ⟨z, hz, rz⟩ := (g2.val k).1 d hd
        have ek := keyOf_v r2 hk
        refine ⟨p, z, rfl, .inl ⟨ws, k, g1, ek, hz.symm⟩, q _ H2 ι2 R2 (P1.trans P2) rz trivial⟩
      · cases hm
    · cases hm

/-! ### slices -/
def tGO (K : PySem.W.Frag) (m : M (Option Int)) : TO := fun σ H Q => ∃ ι e S r e' S', Rel K H ι σ e S ∧ m e S = some (r, e', S') ∧ ∀ H' ι', Rel K H' ι' σ e' S' → Post H ι σ e H' ι' σ e' → Q r H'
theorem PO.imp {X : Cx} {ex : Option Expr} {t t' : TO} (h : PO X ex t) (w : ∀ σ H Q, t' σ H Q → t σ H Q) : PO X ex t' := ⟨fun pins s σ H Q I q => h.run pins s σ H Q I (w σ H Q q)⟩
abbrev GO (X : Cx) (ex : Option Expr) (m : M (Option Int)) : Prop := PO X ex (tGO X.K m)
def asI (r : R) : M (Option Int) := match r with
  | .d (.int i) => pur (some i)
  | _ => stk
theorem go_none : GO X none (pur none) := PO.imp po_none fun σ H Q q => by
  obtain ⟨ι, e, S, r, e', S', R, hm, q⟩ := q
  cases hm
  exact q H ι R .refl
theorem go_some (h : GE X a ma) : GO X (some a) (bnd ma asI) := PO.imp (po_some h) fun σ H Q q => by
  obtain ⟨ι, e, S, r, e', S', R, hm, q⟩ := q
  obtain ⟨x, e1, S1, h1, hm⟩ := bnd_eq hm
  refine ⟨ι, e, S, x, e1, S1, R, h1, fun v H1 ι1 R1 P1 r1 _ => ?_⟩
  unfold asI at hm
  split at hm
  · cases hm
    cases r1
    exact ⟨_, rfl, q H1 ι1 R1 P1⟩
  · cases hm
def cutD (xs : List D) (lo hi : Option Int) : List D := (xs.drop (HT.sIx xs.length 0 lo)).take (HT.sIx xs.length xs.length hi - HT.sIx xs.length 0 lo)
theorem RDs.cut {K : PySem.W.Frag} {H : Hp} {ι : List Addr} {vs : List V} {ds : List D} (h : RDs K H ι vs ds) (lo hi : Option Int) : RDs K H ι (cutV vs lo hi) (cutD ds lo hi) := by
  unfold cutV cutD
  rw [h.length]
  exact (h.drop _).take _
def gSl (rx : R) (lo hi : Option Int) : M R := fun e S => match rx with
  | .d (.tup ds) => some (.d (.tup (cutD ds lo hi)), e, S)
  | .d (.str z) => if z.length ≤ 1000000 then some (.d (.str (cutS z lo hi)), e, S) else none
  | rx => (match look rx e S with
    | some (.lst ds) => some (.new (.lst (cutD ds lo hi)), e, S)
    | _ => none)
def mSl (ma : M R) (ml mh : M (Option Int)) : M R := bnd ma fun x => bnd ml fun l => bnd mh fun h => gSl x l h
theorem cutD_whole {ds : List D} {lo hi : Option Int} (h : HT.sIx ds.length 0 lo = 0 ∧ HT.sIx ds.length ds.length hi = ds.length) : cutD ds lo hi = ds := by
  unfold cutD
  rw [h.1, h.2]
  simp
theorem ge_slice {lo hi : Option Expr} {ml mh : M (Option Int)} {p2 : Pos} (ha : GE X a ma) (hl : GO X lo ml) (hh : GO X hi mh) : GE X (.Subscript a (.Slice lo hi none p2) pos) (mSl ma ml mh) :=
  PE.imp (pe_slice (SlR.or (SlR.or sl_list sl_tupN) sl_str) ha hl hh) fun σ H Q q => by
    obtain ⟨ι, e, S, r, e', S', R, hm, q⟩ := q
    obtain ⟨x, e1, S1, h1, hm⟩ := bnd_eq hm
    obtain ⟨l, e2, S2, h2, hm⟩ := bnd_eq hm
    obtain ⟨h, e3, S3, h3, hm⟩ := bnd_eq hm
    refine ⟨ι, e, S, _, e1, S1, R, h1, fun v H1 ι1 R1 P1 r1 _ => ⟨ι1, e1, S1, _, _, _, R1, h2, fun H2 ι2 R2 P2 => ⟨ι2, e2, S2, _, _, _, R2, h3, fun H3 ι3 R3 P3 => ?_⟩⟩⟩
    have r3 := (r1.post P2).post P3
    have P13 := (P1.trans P2).trans P3
    unfold gSl at hm
    split at hm
    · cases hm
      rename_i ds
      cases r3 with
      | tup g1 g2 =>
        refine .inl (.inr ⟨_, _, rfl, g1.sq, fun hw => ?_, fun hw p us hp => ?_⟩)
        · rw [g2.length] at hw
          exact q _ H3 ι3 R3 P13 (.tup g1 (by rw [cutD_whole hw]; exact g2)) trivial
        · obtain ⟨R4, P4, _⟩ := R3.new (u := .frz (tpo us) (.tup (cutV _ l h))) hp
          exact q _ _ ι3 R4 (P13.trans P4) (.tup .mk (RDs.mono P4.stay P4.pre _ _ (g2.cut l h))) trivial
    · split at hm
      · rename_i hz
        cases hm
        cases r3
        exact .inr ⟨_, rfl, Nat.le_trans hz line_ge, q _ H3 ι3 R3 P13 (.str _) trivial⟩
      · cases hm
    · split at hm
      · rename_i hlk
        cases hm
        obtain ⟨p, xs, rfl, g1, g2⟩ := R3.lookL r3 hlk
        refine .inl (.inl ⟨_, _, rfl, g1, fun p hp => ?_⟩)
        obtain ⟨R4, P4, n1, n2⟩ := R3.new (u := .lst (cutV xs l h)) hp
        exact q _ _ ι3 R4 (P13.trans P4) ⟨p, rfl, ⟨_, upd_same, RDs.mono P4.stay P4.pre _ _ (g2.cut l h)⟩, n1, n2⟩ ⟨p, rfl, P13.back hp⟩
      · cases hm

/-! ### built-in calls -/
variable {es : List Expr} {ms : M (List R)} {ex : Expr}
theorem tG_cb {K : PySem.W.Frag} {g : List R → M R} {σ : SV} {H : Hp} {Q : VK} (h : tG K (bnd ms g) σ H Q) : tGA K ms σ H fun vs H1 => tOA K g vs H1 Q := by
  obtain ⟨ι, e, S, r, e', S', R, hm, q⟩ := h
  obtain ⟨rs, e1, S1, h1, hm⟩ := bnd_eq hm
  exact ⟨ι, e, S, rs, e1, S1, R, h1, fun vs H1 ι1 R1 P1 r1 => ⟨ι1, σ, e1, S1, rs, r, e', S', R1, r1, hm, fun v H2 ι2 R2 P2 r2 f2 => q v H2 ι2 R2 (P1.trans P2) r2 (f2.back P1)⟩⟩
theorem ge_cb {x : Str} {id : String} {p : Pos} {g : List R → M R} (hc : CallR X (.builtin id) (tOA X.K g)) (hg : Gl X x) (hm : X.mg x = none) (hv : bootBuiltins x = some (.builtin id)) (ha : GA X (ex :: es) ms) (hn : x ≠ "__name__" := by decide) (hdb : (x == ("__debug__" : Str)) = false := by decide)
    (he : starEach (ex :: es) X.env = (false, eval ex X.env) :: starEach es X.env := by rfl) (hpl : (backTo pos (starEach es X.env)).any (·.1) = false := by rfl) : GE X (.Call (.Name x p) (ex :: es) [] pos) (bnd ms g) :=
  PE.imp (pe_callB hc hg hm hv ha hn hdb he hpl) fun σ H Q q => tG_cb q
theorem ge_ct {x : Str} {T : String} {p : Pos} {g : List R → M R} (hc : CallR X (.type T) (tOA X.K g)) (hg : Gl X x) (hm : X.mg x = none) (hv : bootBuiltins x = some (.type T)) (ha : GA X (ex :: es) ms) (hn : x ≠ "__name__" := by decide) (hdb : (x == ("__debug__" : Str)) = false := by decide)
    (he : starEach (ex :: es) X.env = (false, eval ex X.env) :: starEach es X.env := by rfl) (hpl : (backTo pos (starEach es X.env)).any (·.1) = false := by rfl) : GE X (.Call (.Name x p) (ex :: es) [] pos) (bnd ms g) :=
  PE.imp (pe_callTy hc hg hm hv ha hn hdb he hpl) fun σ H Q q => tG_cb q
theorem CallR.or {f : Value} {r r' : List V → Hp → VK → Prop} (h : CallR X f r) (h' : CallR X f r') : CallR X f (fun x H Q => r x H Q ∨ r' x H Q) := fun pins s σ H x v Q I rx q => q.elim (h pins s σ H x v Q I rx) (h' pins s σ H x v Q I rx)
/-- one argument -/
def g1 (g : R → M R) (rs : List R) : M R := match rs with
  | [r] => g r
  | _ => stk
theorem g1_of {f : Value} {r : List V → Hp → VK → Prop} {g : R → M R} (h : CallR X f r) (w : ∀ ι σ e S v rx r' e' S' H (Q : VK), Rel X.K H ι σ e S → RR X.K H ι σ e v rx → g rx e S = some (r', e', S') →
    (∀ v H' ι', Rel X.K H' ι' σ e' S' → Post H ι σ e H' ι' σ e' → RR X.K H' ι' σ e' v r' → Fresh H v r' → Q v H') → r [v] H Q) : CallR X f (tOA X.K (g1 g)) := CallR.imp h fun x H Q q => by
  obtain ⟨ι, σ, e, S, rs, r, e', S', R, hr, hm, q⟩ := q
  unfold g1 at hm
  split at hm
  · cases hr with
    | cons h1 h2 =>
      cases h2
      exact w ι σ e S _ _ r e' S' H Q R h1 hm q
  · cases hm
def gLen (r : R) : M R := fun e S => match r with
  | .d (.str x) => if x.length ≤ 1000000 then some (.d (.int x.length), e, S) else none
  | r => (seqOf r e S).map fun ds => (.d (.int ds.length), e, S)
theorem cg_len : CallR X (.builtin "len") (tOA X.K (g1 gLen)) := g1_of (CallR.or call_len_seq call_len_str) fun ι σ e S v rx r' e' S' H Q R hr hm q => by
  unfold gLen at hm
  split at hm
  · split at hm
    · cases hm
      cases hr
      exact .inr ⟨_, rfl, Nat.le_trans (by assumption) line_ge, q _ H ι R .refl (.int _) trivial⟩
    · cases hm
  · obtain ⟨ds, hd, hz⟩ := Option.map_eq_some_iff.mp hm
    cases hz
    obtain ⟨p, xs, rfl, h1, h2⟩ := R.seq hr hd
    refine .inl ⟨p, xs, rfl, h1, ?_⟩
    rw [h2.length]
    exact q _ H ι R .refl (.int _) trivial
def blsOf : List D → Option (List Bool)
  | [] => some []
  | .bl b :: ds => (blsOf ds).map (b :: ·)
  | _ :: _ => none
theorem RDs.bls {K : PySem.W.Frag} {H : Hp} {ι : List Addr} : ∀ {vs : List V} {ds : List D} {bs : List Bool}, RDs K H ι vs ds → blsOf ds = some bs → vs = bs.map V.bl
  | _, [], _, .nil, e => by cases e; rfl
  | _, d :: ds, bs, .cons h1 h2, e => by
    cases d with
    | bl b =>
      obtain ⟨cs, e1, e2⟩ := Option.map_eq_some_iff.mp (show (blsOf ds).map (b :: ·) = some bs from e)
      subst e2
      cases h1
      rw [RDs.bls h2 e1]
      rfl
    | _ => cases e
def lstOf (r : R) (e : En) (S : Sto) : Option (List D) := match look r e S with
  | some (.lst ds) => some ds
  | _ => none
theorem Rel.lst {K : PySem.W.Frag} {H : Hp} {ι : List Addr} {σ : SV} {e : En} {S : Sto} {v : V} {r : R} {ds : List D} (R : Rel K H ι σ e S) (hr : RR K H ι σ e v r) (h : lstOf r e S = some ds) : ∃ a xs, v = .ref a ∧ SqL K H a xs ∧ RDs K H ι xs ds := by
  unfold lstOf at h
  split at h
  · cases h; exact R.lookL hr (by assumption)
  · cases h
def gBls (f : List Bool → Bool) (r : R) : M R := fun e S => (lstOf r e S).bind fun ds => (blsOf ds).map fun bs => (.d (.bl (f bs)), e, S)
theorem cg_all (hc : X.calm = true) : CallR X (.builtin "all") (tOA X.K (g1 (gBls fun bs => bs.all id))) := g1_of (cr_all hc) fun ι σ e S v rx r' e' S' H Q R hr hm q => by
  obtain ⟨ds, hd, hm⟩ := Option.bind_eq_some_iff.mp hm
  obtain ⟨bs, hb, hz⟩ := Option.map_eq_some_iff.mp hm
  cases hz
  obtain ⟨p, xs, rfl, h1, h2⟩ := R.lst hr hd
  have h3 := h2.bls hb
  subst h3
  exact ⟨p, bs, rfl, h1, q _ H ι R .refl (.bl _) trivial⟩
def gTuple (r : R) : M R := fun e S => (seqOf r e S).map fun ds => (.d (.tup ds), e, S)
theorem cg_tuple : CallR X (.type "tuple") (tOA X.K (g1 gTuple)) := g1_of call_tupleN fun ι σ e S v rx r' e' S' H Q R hr hm q => by
  obtain ⟨ds, hd, hz⟩ := Option.map_eq_some_iff.mp hm
  cases hz
  obtain ⟨p, xs, rfl, h1, h2⟩ := R.seqN hr hd
  refine ⟨p, xs, rfl, ?_⟩
  rcases h1 with h1 | h1
  · refine .inl ⟨h1, fun l us hl => ?_⟩
    obtain ⟨R4, P4, _⟩ := R.new (u := .frz (tpo us) (.tup xs)) hl
    exact q _ _ ι R4 P4 (.tup .mk (RDs.mono P4.stay P4.pre _ _ h2)) trivial
  · exact .inr ⟨h1.sq, q _ H ι R .refl (.tup h1 h2) trivial⟩
def gList (r : R) : M R := fun e S => (seqOf r e S).map fun ds => (.new (.lst ds), e, S)
theorem cg_list : CallR X (.type "list") (tOA X.K (g1 gList)) := g1_of call_list_of fun ι σ e S v rx r' e' S' H Q R hr hm q => by
  obtain ⟨ds, hd, hz⟩ := Option.map_eq_some_iff.mp hm
  cases hz
  obtain ⟨p, xs, rfl, h1, h2⟩ := R.seq hr hd
  refine ⟨p, xs, rfl, h1, fun l hl => ?_⟩
  obtain ⟨R4, P4, n1, n2⟩ := R.new (u := .lst xs) hl
  exact q _ _ ι R4 P4 ⟨l, rfl, ⟨_, upd_same, RDs.mono P4.stay P4.pre _ _ h2⟩, n1, n2⟩ ⟨l, rfl, hl⟩
def gInt (r : R) : M R := fun e S => match r with
  | .d (.int i) => some (.d (.int i), e, S)
  | .d (.bl b) => some (.d (.int (if b then 1 else 0)), e, S)
  | _ => none
theorem cg_int : CallR X (.type "int") (tOA X.K (g1 gInt)) := g1_of call_int1 fun ι σ e S v rx r' e' S' H Q R hr hm q => by
  unfold gInt at hm
  split at hm <;> cases hm
  · cases hr; exact .inl ⟨_, rfl, q _ H ι R .refl (.int _) trivial⟩
  · cases hr; exact .inr ⟨_, rfl, q _ H ι R .refl (.int _) trivial⟩
def gAbs (r : R) : M R := fun e S => match r with
  | .d (.int i) => some (.d (.int (if i < 0 then -i else i)), e, S)
  | _ => none
theorem cg_abs : CallR X (.builtin "abs") (tOA X.K (g1 gAbs)) := g1_of call_abs fun ι σ e S v rx r' e' S' H Q R hr hm q => by
  unfold gAbs at hm
  split at hm <;> cases hm
  cases hr; exact ⟨_, rfl, q _ H ι R .refl (.int _) trivial⟩
/-- dict(pairs) -/
def prsOf : List D → Option (List (Key × D))
  | [] => some []
  | .tup [k, v] :: ds => (keyOf k).bind fun k => (prsOf ds).map ((k, v) :: ·)
  | _ :: _ => none
def putD (kvs : List (Key × D)) (k : Key) (v : D) : List (Key × D) :=
  if (kvs.any fun kv => decide (kv.1 = k)) = true then kvs.map (fun kv => if kv.1 = k then (kv.1, v) else kv) else kvs ++ [(k, v)]
def mergeD (kvs more : List (Key × D)) : List (Key × D) := more.foldl (fun acc kv => putD acc kv.1 kv.2) kvs
section
variable {K : PySem.W.Frag} {H : Hp} {ι : List Addr}
theorem RK.any {ws : List (Key × V)} {kvs : List (Key × D)} (h : RK K H ι ws kvs) (k : Key) : (ws.any fun kv => decide (kv.1 = k)) = (kvs.any fun kv => decide (kv.1 = k)) := by
  induction h with
  | nil => rfl
  | cons h1 _ ih => rw [List.any_cons, List.any_cons, ih, h1.1]
theorem RK.putMap {ws : List (Key × V)} {kvs : List (Key × D)} {v : V} {d : D} (h : RK K H ι ws kvs) (k : Key) (r : RD K H ι v d) : RK K H ι (ws.map fun kv => if kv.1 = k then (kv.1, v) else kv) (kvs.map fun kv => if kv.1 = k then (kv.1, d) else kv) := by
  induction h with
  | nil => exact .nil
  | cons h1 _ ih =>
    refine .cons ?_ ih
    obtain ⟨e1, r1⟩ := h1
    dsimp only
    rename_i p q _ _ _
    by_cases hk : q.1 = k
    · rw [if_pos (e1.trans hk), if_pos hk]; exact ⟨e1, r⟩
    · rw [if_neg (fun z => hk (e1 ▸ z)), if_neg hk]; exact ⟨e1, r1⟩
theorem RK.append {ws ws' : List (Key × V)} {kvs kvs' : List (Key × D)} (h : RK K H ι ws kvs) (h' : RK K H ι ws' kvs') : RK K H ι (ws ++ ws') (kvs ++ kvs') := by
  induction h with
  | nil => exact h'
  | cons h1 _ ih => exact .cons h1 ih
theorem RK.put {ws : List (Key × V)} {kvs : List (Key × D)} {v : V} {d : D} (h : RK K H ι ws kvs) (k : Key) (r : RD K H ι v d) : RK K H ι (putK ws k v) (putD kvs k d) := by
  unfold putK putD
  rw [h.any k]
  split
  · exact h.putMap k r
  · exact h.append (.cons ⟨rfl, r⟩ .nil)
theorem RK.merge : ∀ {ms : List (Key × V)} {nds : List (Key × D)} {ws : List (Key × V)} {kvs : List (Key × D)}, RK K H ι ms nds → RK K H ι ws kvs → RK K H ι (mergeK ws ms) (mergeD kvs nds)
  | _, _, _, _, .nil, h => h
  | _, _, _, _, .cons h1 h2, h => by
    unfold mergeK mergeD
    rw [List.foldl_cons, List.foldl_cons, h1.1]
    exact RK.merge h2 (h.put _ h1.2)
theorem RDs.prs : ∀ {vs : List V} {ds : List D} {kvs : List (Key × D)}, RDs K H ι vs ds → prsOf ds = some kvs → ∃ (ps : List Addr) (ws : List (Key × V)), vs = ps.map V.ref ∧ Paired (fun p kv => SqT K H p [kV kv.1, kv.2]) ps ws ∧ RK K H ι ws kvs
  | _, [], _, .nil, e => by cases e; exact ⟨[], [], rfl, .nil, .nil⟩
  | _, d :: ds, kvs, .cons h1 h2, e => by
    unfold prsOf at e
    split at e
    · rename_i hh; cases hh
    · rename_i kd vd ds' hh
      cases hh
      obtain ⟨k, hk, e⟩ := Option.bind_eq_some_iff.mp e
      obtain ⟨cs, e1, e2⟩ := Option.map_eq_some_iff.mp e
      subst e2
      obtain ⟨ps, ws, e3, hp, hr⟩ := RDs.prs h2 e1
      cases h1 with
      | tup g1 g2 =>
        cases g2 with
        | cons g3 g4 =>
          cases g4 with
          | cons g5 g6 =>
            cases g6
            rename_i a _ _
            have ek := keyOf_v g3 hk
            subst ek
            exact ⟨a :: ps, (k, _) :: ws, by rw [e3]; rfl, .cons g1 hp, .cons ⟨rfl, g5⟩ hr⟩
    · cases e
end
def gDict (r : R) : M R := fun e S => (lstOf r e S).bind fun ds => (prsOf ds).map fun kvs => (.new (.dct (mergeD [] kvs)), e, S)
/-- sorted(a dict whose keys are texts) -/
def leS (a b : Str) : Bool := !ltCps b.cps.toList a.cps.toList
def srtS (ks : List Str) : List Str := ks.mergeSort leS
theorem ltCps_lt : ∀ x y : List Nat, ltCps x y = decide (x < y)
  | [], [] => by simp [ltCps]
  | [], _ :: _ => by simp [ltCps]
  | _ :: _, [] => by simp [ltCps]
  | a :: r, b :: t => by
    unfold ltCps
    rw [ltCps_lt r t]
    by_cases h1 : a < b
    · simp [h1, List.cons_lt_cons_iff]
    · by_cases h2 : a = b
      · subst h2; simp [List.cons_lt_cons_iff]
      · simp [h1, h2, List.cons_lt_cons_iff]
theorem leS_le (a b : Str) : leS a b = true ↔ a.cps.toList ≤ b.cps.toList := by
  unfold leS
  rw [ltCps_lt]
  simp
theorem leS_trans (a b c : Str) (h1 : leS a b = true) (h2 : leS b c = true) : leS a c = true := by
  rw [leS_le] at *
  exact List.le_trans h1 h2
theorem leS_total (a b : Str) : (leS a b || leS b a) = true := by
  rw [Bool.or_eq_true, leS_le, leS_le]
  exact List.le_total _ _
theorem leS_anti (a b : Str) (h1 : leS a b = true) (h2 : leS b a = true) : a = b := by
  rw [leS_le] at *
  have := List.le_antisymm h1 h2
  obtain ⟨⟨l⟩⟩ := a
  obtain ⟨⟨m⟩⟩ := b
  simp at this
  subst this
  rfl
theorem rising_pw : ∀ (r : List Str) (p : Str), risingS p r = true → (p :: r).Pairwise fun a b => leS a b = true
  | [], _, _ => by simp
  | x :: r, p, h => by
    unfold risingS at h
    rw [Bool.and_eq_true] at h
    have ih := rising_pw r x h.2
    refine List.Pairwise.cons (fun y hy => ?_) ih
    rcases List.mem_cons.mp hy with rfl | hy
    · exact h.1
    · exact leS_trans p x y h.1 ((List.pairwise_cons.mp ih).1 y hy)
theorem srtS_of {ys ks : List Str} (hp : ys.Perm ks) (hs : sortedS ys = true) : ys = srtS ks := by
  have h1 : ys.Pairwise fun a b => leS a b = true := by
    cases ys with
    | nil => exact .nil
    | cons x r => exact rising_pw r x hs
  have h2 := List.pairwise_mergeSort (le := leS) leS_trans leS_total ks
  exact List.Perm.eq_of_pairwise (fun a b _ _ => leS_anti a b) h1 h2 (hp.trans (List.mergeSort_perm ks leS).symm)
def keysS : List (Key × D) → Option (List Str)
  | [] => some []
  | (.inr x, _) :: r => (keysS r).map (x :: ·)
  | (.inl _, _) :: _ => none
theorem RK.keysS {K : PySem.W.Frag} {H : Hp} {ι : List Addr} : ∀ {ws : List (Key × V)} {kvs : List (Key × D)} {ks : List Str}, RK K H ι ws kvs → G.keysS kvs = some ks → ws.map (·.1) = ks.map Sum.inr
  | _, _, _, .nil, e => by cases e; rfl
  | _, (k, d) :: kvs, ks, .cons h1 h2, e => by
    cases k with
    | inl i => cases e
    | inr x =>
      obtain ⟨cs, e1, e2⟩ := Option.map_eq_some_iff.mp (show (G.keysS kvs).map (x :: ·) = some ks from e)
      subst e2
      rw [List.map_cons, List.map_cons, RK.keysS h2 e1, h1.1]
def gSortedK (r : R) : M R := fun e S => match look r e S with
  | some (.dct kvs) => (G.keysS kvs).bind fun ks => if ks.length < 64 then some (.new (.lst ((srtS ks).map D.str)), e, S) else none
  | _ => none
theorem RDs.strs {K : PySem.W.Frag} {H : Hp} {ι : List Addr} : ∀ ks : List Str, RDs K H ι (ks.map V.str) (ks.map D.str)
  | [] => .nil
  | k :: ks => .cons (.str k) (RDs.strs ks)
end
end G

set_option Elab.async false
set_option linter.all false
set_option maxRecDepth 1000000
set_option maxHeartbeats 2000000
/-! G10: isinstance, methods, items stored, further things walked. -/
namespace G
variable [Wld]
open PySem PySem.Spec PyProof.Rows L2

/-! ### isinstance -/
inductive Kd where
  | non | bl | int | str | tup | lst | dct
def Kd.nm : Kd → String
  | .non => "NoneType" | .bl => "bool" | .int => "int" | .str => "str" | .tup => "tuple" | .lst => "list" | .dct => "dict"
inductive Cl where
  | int | bool | str | tuple | list | dict
def Cl.nm : Cl → String
  | .int => "int" | .bool => "bool" | .str => "str" | .tuple => "tuple" | .list => "list" | .dict => "dict"
def isK : Kd → Cl → Bool
  | .bl, .bool => true | .bl, .int => true | .int, .int => true | .str, .str => true | .tup, .tuple => true | .lst, .list => true | .dct, .dict => true
  | _, _ => false
theorem isK_ok (k : Kd) (c : Cl) : kitB k.nm c.nm = some (isK k c) := by cases k <;> cases c <;> decide +kernel
def kdO : O → Option Kd
  | .lst _ => some .lst
  | .dct _ => some .dct
  | .kd _ => none
  | .tab _ => none
  | .ins _ _ _ => none
  | .kx _ => none
def kd (r : R) (e : En) (S : Sto) : Option Kd := match r with
  | .d .non => some .non
  | .d (.bl _) => some .bl
  | .d (.int _) => some .int
  | .d (.str _) => some .str
  | .d (.tup _) => some .tup
  | r => (look r e S).bind kdO
def mIsi (c : Cl) (m : M R) : M R := bnd m fun r e S => (kd r e S).map fun k => (.d (.bl (isK k c)), e, S)
theorem TyX.sq {K : PySem.W.Frag} {H : Hp} {a : Addr} {xs : List V} (h : SqT K H a xs) : TyX K H (.ref a) (.type "tuple") := by
  rcases h with (h | ⟨o, h⟩) | ⟨o, its, n, h, hc, _⟩
  · exact .base (.tup h)
  · exact .fTuple h
  · exact .kTuple h hc
theorem Rel.kd {K : PySem.W.Frag} {H : Hp} {ι : List Addr} {σ : SV} {e : En} {S : Sto} {v : V} {r : R} {k : Kd} (R : Rel K H ι σ e S) (hr : RR K H ι σ e v r) (h : kd r e S = some k) : TyX K H v (.type k.nm) := by
  unfold G.kd at h
  split at h
  · cases h; cases hr; exact .base .non
  · cases h; cases hr; exact .base (.bl _)
  · cases h; cases hr; exact .base (.int _)
  · cases h; cases hr; exact .base (.str _)
  · cases h; cases hr with | tup h1 h2 => exact TyX.sq h1.sq
  · obtain ⟨o, ho, hk⟩ := Option.bind_eq_some_iff.mp h
    obtain ⟨a, rfl, h1 | ⟨xs, ds, h1, e1, _⟩ | ⟨ob, ws, kvs, h1, e1, _⟩⟩ := R.look hr ho
    · cases o with
      | lst ds => cases hk; obtain ⟨xs, h2, _⟩ := h1; exact .base (.lst h2)
      | dct kvs => cases hk; obtain ⟨ws, h2, _⟩ := h1; exact .base (.dK h2)
      | kd kvs => cases hk
      | tab q => cases hk
      | ins _ _ _ => cases hk
      | kx _ => cases hk
    · subst e1
      cases hk
      rcases h1 with ⟨ob, h1⟩ | ⟨ob, its, n, h1, h2, _⟩
      · exact .base (.frz h1)
      · exact .kList h1 h2
    · subst e1; cases hk; exact .fDict h1
section
variable {X : Cx} {ex a b o : Expr} {es : List Expr} {m ma mb mo : M R} {ms : M (List R)} {pos apos p p2 : Pos}
theorem ge_isi {y : Str} (c : Cl) (hg : Gl X "isinstance") (hm : X.mg "isinstance" = none) (hg2 : Gl X y) (hm2 : X.mg y = none) (hv2 : bootBuiltins y = some (.type c.nm)) (h : GE X ex m)
    (hy : y ≠ "__name__" := by decide) (hyd : (y == ("__debug__" : Str)) = false := by decide)
    (hb : bootBuiltins "isinstance" = some (.builtin "isinstance") := by decide +kernel)
    (hs : starEach [ex, .Name y p2] X.env = (false, eval ex X.env) :: starEach [.Name y p2] X.env := by rfl) :
    GE X (.Call (.Name "isinstance" p) [ex, .Name y p2] [] pos) (mIsi c m) :=
  PE.imp (pe_callB call_isi hg hm hb (pa_cons h (pa_cons (pe_bltn (v := .ty c.nm) hg2 hm2 hv2 rfl hy hyd) pa_nil) hs) (by decide) (by decide) hs) fun σ H Q q => by
    obtain ⟨ι, e, S, r, e', S', R, hm, q⟩ := q
    obtain ⟨x, e1, S1, h1, hm⟩ := bnd_eq hm
    obtain ⟨k, hk, hz⟩ := Option.map_eq_some_iff.mp (show (kd x e1 S1).map (fun k => (G.R.d (.bl (isK k c)), e1, S1)) = some (r, e', S') from hm)
    cases hz
    exact ⟨ι, e, S, x, _, _, R, h1, fun v H1 ι1 R1 P1 r1 _ => ⟨v, .ty c.nm, _, _, isK k c, rfl, .ty _, R1.kd r1 hk, isK_ok k c, q _ H1 ι1 R1 P1 (.bl _) trivial⟩⟩

/-! ### methods of built-in types -/
def tOM (K : PySem.W.Frag) (g : R → List R → M R) : V → List V → Hp → VK → Prop := fun x xs H Q => ∃ ι σ e S rx rs r e' S', Rel K H ι σ e S ∧ RR K H ι σ e x rx ∧ RRs K H ι σ e xs rs ∧ g rx rs e S = some (r, e', S') ∧
  ∀ v H' ι', Rel K H' ι' σ e' S' → Post H ι σ e H' ι' σ e' → RR K H' ι' σ e' v r → Fresh H v r → Q v H'
theorem MtR.imp {id : String} {r r' : V → List V → Hp → VK → Prop} (h : MtR X id r) (w : ∀ x xs H Q, r' x xs H Q → r x xs H Q) : MtR X id r' := fun pins s σ H x xs v us Q I rx rs q => h pins s σ H x xs v us Q I rx rs (w _ _ _ _ q)
/-- the receiver is of this type -/
def isTy (T : String) (r : R) (e : En) (S : Sto) : Bool := if T = "str" then (match r with
  | .d (.str _) => true
  | _ => false) else if T = "list" then (match look r e S with
  | some (.lst _) => true
  | _ => false) else false
def chk (T : String) (r : R) : M R := fun e S => if isTy T r e S then some (r, e, S) else none
def mMth (T : String) (g : R → List R → M R) (mo : M R) (ms : M (List R)) : M R := bnd (bnd mo (chk T)) fun x => bnd ms fun ys => g x ys
theorem Rel.ty {K : PySem.W.Frag} {H : Hp} {ι : List Addr} {σ : SV} {e : En} {S : Sto} {v : V} {r : R} {T : String} (R : Rel K H ι σ e S) (hr : RR K H ι σ e v r) (h : isTy T r e S = true) : tyV K T v H := by
  unfold isTy at h
  split at h
  · rename_i hT
    split at h
    · cases hr; exact hT
    · cases h
  · split at h
    · rename_i hT
      split at h
      · obtain ⟨a, xs, rfl, h1, _⟩ := R.lookL hr (by assumption)
        exact .inl ⟨hT, xs, h1⟩
      · cases h
    · cases h
theorem chk_eq {T : String} {r : R} {e : En} {S : Sto} {z} (h : chk T r e S = some z) : isTy T r e S = true ∧ z = (r, e, S) := by
  unfold chk at h
  split at h
  · exact ⟨by assumption, (Option.some.inj h).symm⟩
  · cases h
theorem ge_m {T id : String} {name : Str} {g : R → List R → M R} (pa : PlainAttrs T) (slot : Slot T name id) (hty : typeOf (.builtin id) = pure (.type "method_descriptor")) (hm : MtR X id (tOM X.K g)) (ho : GE X o mo) (ha : GA X (ex :: es) ms)
    (hbase : attributeBase o name X.env (eval o X.env) = eval o X.env := by rfl)
    (hfew : ((backTo pos (starEach (ex :: es) X.env)).all (fun x => !x.1) && (backToKw pos (keywordEach [] X.env)).all (fun x => x.1.isSome)
      && decide ((ex :: es).length + ([] : List Keyword).length + (if ([] : List Keyword).isEmpty then 0 else 1) < 30)) = true := by rfl)
    (hline : (apos.endLine == pos.line) = true := by rfl) (hs : starEach (ex :: es) X.env = (false, eval ex X.env) :: starEach es X.env := by rfl) (hplain : (backTo pos (starEach es X.env)).any (·.1) = false := by rfl) :
    GE X (.Call (.Attribute o name apos) (ex :: es) [] pos) (mMth T g mo ms) :=
  PE.imp (pe_bm pa slot hty hm ho ha hbase hfew hline hs hplain) fun σ H Q q => by
    obtain ⟨ι, e, S, r, e', S', R, hm, q⟩ := q
    obtain ⟨x, e1, S1, h1, hm⟩ := bnd_eq hm
    obtain ⟨x', e0, S0, h0, hc⟩ := bnd_eq h1
    obtain ⟨ht, hz⟩ := chk_eq hc
    cases hz
    obtain ⟨ys, e2, S2, h2, hm⟩ := bnd_eq hm
    exact ⟨ι, e, S, _, _, _, R, h0, fun v H1 ι1 R1 P1 r1 _ => ⟨R1.ty r1 ht, ι1, _, _, ys, e2, S2, R1, h2, fun vs H2 ι2 R2 P2 r2 => ⟨ι2, σ, e2, S2, _, ys, r, e', S', R2, r1.post P2, r2, hm, fun v H3 ι3 R3 P3 r3 f3 => q v H3 ι3 R3 ((P1.trans P2).trans P3) r3 (f3.back (P1.trans P2))⟩⟩⟩
/-- a list is written -/
theorem Rel.writeL {K : PySem.W.Frag} {H : Hp} {ι : List Addr} {σ : SV} {e : En} {S : Sto} {v : V} {r : R} {ds : List D} (R : Rel K H ι σ e S) (hr : RR K H ι σ e v r) (hl : G.look r e S = some (.lst ds)) (hw : isW r = true) :
    ∃ a xs, v = .ref a ∧ H a = some (.lst xs) ∧ RDs K H ι xs ds ∧ ∀ ys es, RDs K H ι ys es → Rel K (upd H a (.lst ys)) ι σ (putE r (.lst es) e) (putS r (.lst es) S) ∧ Post H ι σ e (upd H a (.lst ys)) ι σ (putE r (.lst es) e) := by
  obtain ⟨a, rfl, ro, w⟩ := R.write hr hl hw
  have st := fun u n => ro.stay u n (fun _ z => by cases z)
  obtain ⟨xs, h1, h2⟩ := ro
  exact ⟨a, xs, rfl, h1, h2, fun ys es h => w _ _ ⟨ys, upd_same, RDs.mono (st _ lmu_lst) ⟨[], by simp⟩ _ _ h⟩⟩
def wrL (r : R) (f : List D → Option (R × List D)) : M R := fun e S => match look r e S with
  | some (.lst ds) => if isW r then (f ds).map fun (x, es) => (x, putE r (.lst es) e, putS r (.lst es) S) else none
  | _ => none
theorem wrL_eq {r : R} {f : List D → Option (R × List D)} {e : En} {S : Sto} {z} (h : wrL r f e S = some z) : ∃ ds x es, look r e S = some (.lst ds) ∧ isW r = true ∧ f ds = some (x, es) ∧ z = (x, putE r (.lst es) e, putS r (.lst es) S) := by
  unfold wrL at h
  split at h
  · split at h
    · obtain ⟨⟨x, es⟩, h1, h2⟩ := Option.map_eq_some_iff.mp h
      exact ⟨_, x, es, by assumption, by assumption, h1, h2.symm⟩
    · cases h
  · cases h
def gAppend (r : R) (rs : List R) : M R := match rs with
  | [.d x] => wrL r fun ds => if ds.length < 1000000 then some (.d .non, ds ++ [x]) else none
  | _ => stk
theorem lt_line {n : Nat} (h : n < 1000000) : n < sizeLine := Nat.lt_of_lt_of_le h line_ge
theorem mg_append : MtR X "list.append" (tOM X.K gAppend) := MtR.imp mt_append fun x xs H Q q => by
  obtain ⟨ι, σ, e, S, rx, rs, r, e', S', R, hx, hs, hm, q⟩ := q
  unfold gAppend at hm
  split at hm
  · obtain ⟨ds, x', es, h1, h2, h3, hz⟩ := wrL_eq hm
    cases hz
    split at h3
    · cases h3
      rename_i hl
      cases hs with
      | cons g1 g2 =>
        cases g2
        obtain ⟨a, us, rfl, k1, k2, k3⟩ := R.writeL hx h1 h2
        obtain ⟨R2, P2⟩ := k3 _ _ (k2.append (.cons g1 .nil))
        exact ⟨a, us, _, rfl, rfl, k1, lt_line (by rw [k2.length]; exact hl), q _ _ ι R2 P2 .non trivial⟩
    · cases h3
  · cases hm
def gPop (r : R) (rs : List R) : M R := match rs with
  | [] => wrL r fun ds => (ds[ds.length - 1]?).map fun d => (.d d, ds.dropLast)
  | [.d (.int i)] => wrL r fun ds => if -(2 ^ 63) ≤ i ∧ i < 2 ^ 63 then (seqIndex? i ds.length).bind fun k => (ds[k]?).map fun d => (.d d, ds.eraseIdx k) else none
  | _ => stk
theorem RDs.dropLast {K : PySem.W.Frag} {H : Hp} {ι : List Addr} {vs : List V} {ds : List D} (h : RDs K H ι vs ds) : RDs K H ι vs.dropLast ds.dropLast := by
  rw [List.dropLast_eq_take, List.dropLast_eq_take, h.length]
  exact h.take _
theorem RDs.eraseIdx {K : PySem.W.Frag} {H : Hp} {ι : List Addr} {vs : List V} {ds : List D} (h : RDs K H ι vs ds) (k : Nat) : RDs K H ι (vs.eraseIdx k) (ds.eraseIdx k) := by
  rw [List.eraseIdx_eq_take_drop_succ, List.eraseIdx_eq_take_drop_succ]
  exact (h.take _).append (h.drop _)
/-- xs.index(x): the first place of what == x -/
def idxD (x : D) (ds : List D) : Option Nat := ds.findIdx? fun y => eqS y x
def gIndex (r : R) (rs : List R) : M R := fun e S => match rs with
  | [.d x] => (lstOf r e S).bind fun ds => if flat x && ds.all flat then (idxD x ds).map fun j => (.d (.int (j : Nat)), e, S) else none
  | _ => none
theorem mg_index : MtR X "list.index" (tOM X.K gIndex) := MtR.imp mt_index fun x xs H Q q => by
  obtain ⟨ι, σ, e, S, rx, rs, r, e', S', R, hx, hs, hm, q⟩ := q
  unfold gIndex at hm
  split at hm
  · obtain ⟨ds, hd, hm⟩ := Option.bind_eq_some_iff.mp hm
    split at hm
    · rename_i hf
      obtain ⟨j, hj, hz⟩ := Option.map_eq_some_iff.mp hm
      cases hz
      rw [Bool.and_eq_true] at hf
      cases hs with
      | cons g1 g2 =>
        cases g2
        obtain ⟨a, us, rfl, k1, k2⟩ := R.lst hx hd
        obtain ⟨e1, f1⟩ := RD.flat g1 hf.1
        obtain ⟨e2, f2⟩ := RDs.flat k2 hf.2
        subst e1 e2
        unfold idxD at hj
        rw [List.findIdx?_eq_some_iff_getElem] at hj
        obtain ⟨hlt, hp, hno⟩ := hj
        have fl : ∀ m (h : m < ds.length), flat ds[m] = true := fun m h => List.all_eq_true.mp hf.2 _ (List.getElem_mem h)
        refine ⟨a, _, _, j, toV ds[j], rfl, rfl, k1, f1, f2, by simp [hlt], ?_, fun m z hm hz => ?_, q _ H ι R .refl (.int _) trivial⟩
        · rw [eqV_toV (fl j hlt) hf.1]; exact hp
        · have hm' : m < ds.length := Nat.lt_trans hm hlt
          have : z = toV ds[m] := by simpa [hm'] using hz.symm
          subst this
          rw [eqV_toV (fl m hm') hf.1]
          simpa using hno m hm
    · cases hm
  · cases hm
/-- sep.join(xs) -/
def strsOf : List D → Option (List Str)
  | [] => some []
  | .str x :: ds => (strsOf ds).map (x :: ·)
  | _ :: _ => none
theorem RDs.ofStrs {K : PySem.W.Frag} {H : Hp} {ι : List Addr} : ∀ {vs : List V} {ds : List D} {bs : List Str}, RDs K H ι vs ds → strsOf ds = some bs → vs = bs.map V.str
  | _, [], _, .nil, e => by cases e; rfl
  | _, d :: ds, bs, .cons h1 h2, e => by
    cases d with
    | str b =>
      obtain ⟨cs, e1, e2⟩ := Option.map_eq_some_iff.mp (show (strsOf ds).map (b :: ·) = some bs from e)
      subst e2
      cases h1
      rw [RDs.ofStrs h2 e1]
      rfl
    | _ => cases e
def gJoin (r : R) (rs : List R) : M R := fun e S => match r, rs with
  | .d (.str a), [x] => (seqOf x e S).bind fun ds => (strsOf ds).bind fun ys => if (ys.map (·.length)).sum + ys.length * a.length ≤ 16777216 then some (.d (.str (Txt.join a ys)), e, S) else none
  | _, _ => none

/-! ### o[i] = v -/
def setIt (ro ri : R) (x : D) : M Fl := fun e S => match look ro e S, ri with
  | some (.lst ds), .d (.int k) => if isW ro then (ixN ds.length k).map fun j => (.nx, putE ro (.lst (ds.set j x)) e, putS ro (.lst (ds.set j x)) S) else none
  | _, _ => none
theorem setIt_eq {ro ri : R} {x : D} {e : En} {S : Sto} {z} (h : setIt ro ri x e S = some z) : ∃ ds k j, look ro e S = some (.lst ds) ∧ ri = .d (.int k) ∧ isW ro = true ∧ ixN ds.length k = some j ∧ z = (.nx, putE ro (.lst (ds.set j x)) e, putS ro (.lst (ds.set j x)) S) := by
  unfold setIt at h
  split at h
  · split at h
    · obtain ⟨j, h1, h2⟩ := Option.map_eq_some_iff.mp h
      exact ⟨_, _, j, by assumption, rfl, by assumption, h1, h2.symm⟩
    · cases h
  · cases h
def mSetI (mv mo mi : M R) : M Fl := bnd mv fun v => match v with
  | .d x => bnd mo fun o => bnd mi fun i => setIt o i x
  | _ => stk
theorem gs_setI {mv mi : M R} {i value : Expr} {pos' : Pos} (hv : GE X value mv) (ho : GE X o mo) (hi : GE X i mi)
    (hs : swapsWithSole [.Subscript o i pos'] value pos.line X.env = pure false := by rfl) (hw : swappedStores [.Subscript o i pos'] value X.env = pure none := by rfl)
    (ha : ∀ v, assign (.Subscript o i pos') X.env v = (do
      let ov ← holding [v] (eval o X.env)
      let iv ← holding [v, ov] (eval i X.env)
      standAt pos'
      holding [v, ov, iv] (setItem ov iv v)
      release [v, ov, iv] []) := by intro _; rfl)
    (h1 : (assignEach [.Subscript o i pos'] X.env).map (·.2) = [assign (.Subscript o i pos') X.env] := by rfl) :
    GS X (.Assign [.Subscript o i pos'] value pos) (mSetI mv mo mi) := PS.imp (ps_asg hv (pg_sub ho hi set_list ha) hs hw h1) fun D σ H q => by
  obtain ⟨ι, e, S, fl, e', S', R, hm, q⟩ := q
  obtain ⟨x, e1, S1, h1, hm⟩ := bnd_eq hm
  refine ⟨ι, e, S, x, e1, S1, R, h1, fun v H1 ι1 R1 P1 r1 _ => ?_⟩
  cases x with
  | d x =>
    obtain ⟨ro, e2, S2, h2, hm⟩ := bnd_eq (show bnd mo (fun o => bnd mi fun i => setIt o i x) e1 S1 = some (fl, e', S') from hm)
    obtain ⟨ri, e3, S3, h3, hm⟩ := bnd_eq hm
    obtain ⟨ds, k, j, g1, rfl, g3, g4, hz⟩ := setIt_eq hm
    cases hz
    refine ⟨ι1, e1, S1, ro, e2, S2, R1, h2, fun vo H2 ι2 R2 P2 r2 _ => ⟨ι2, e2, S2, _, e3, S3, R2, h3, fun vi H3 ι3 R3 P3 r3 _ => ?_⟩⟩
    obtain ⟨a, us, rfl, k1, k2, k3⟩ := R3.writeL (r2.post P3) g1 g3
    cases r3
    have rx : RD X.K H3 ι3 v x := (show RR X.K H3 ι3 σ e3 v (.d x) from (RR.post (r := .d x) r1 (P2.trans P3)))
    obtain ⟨R4, P4⟩ := k3 _ _ (k2.set j rx)
    exact ⟨a, us, k, j, rfl, rfl, k1, by rw [k2.length]; exact g4, q σ _ ι3 R4 (((P1.trans P2).trans P3).trans P4)⟩
  | _ => cases hm
/-- n += e, n -= e (ints) -/
def mAug (i : Nat) (f : Int → Int → Int) (m : M R) : M Fl := fun e S => match e[i]? with
  | some (some (.d (.int x))) => (match m e S with
    | some (.d (.int y), e1, S1) => if i < e1.length then some (.nx, e1.set i (some (.d (.int (f x y)))), S1) else none
    | _ => none)
  | _ => none

/-! ### further things walked -/
def srcStr (r : R) : M Src := fun e S => match r with
  | .d (.str x) => if x.cps.size ≤ 1000000 then some (⟨x.cps.toList.map fun c => .str ⟨#[c]⟩, []⟩, e, S) else none
  | _ => none
theorem srcStr_eq {r : R} {e : En} {S : Sto} {z} (h : srcStr r e S = some z) : ∃ x : Str, r = .d (.str x) ∧ x.cps.size ≤ 1000000 ∧ z = (⟨x.cps.toList.map fun c => .str ⟨#[c]⟩, []⟩, e, S) := by
  unfold srcStr at h
  split at h
  · split at h
    · exact ⟨_, rfl, by assumption, (Option.some.inj h).symm⟩
    · cases h
  · cases h
theorem gi_str {tg : Expr} (h : GE X ex m) : GI X tg ex (bnd m srcStr) := PI.imp (pi_str h) fun σ H Q q => by
  obtain ⟨ι, e, S, src, e', S', R, hm, q⟩ := q
  obtain ⟨r, e1, S1, h1, hm⟩ := bnd_eq hm
  refine ⟨ι, e, S, r, e1, S1, R, h1, fun v H1 ι1 R1 P1 r1 _ => ?_⟩
  obtain ⟨x, rfl, hz, he⟩ := srcStr_eq hm
  cases he
  cases r1
  refine ⟨_, rfl, q _ H1 ι1 R1 P1 (fun i H ι σ e S R P _ _ => ⟨fun d hd => ?_, fun hl => ?_⟩) ?_⟩
  · have hd' : (x.cps.toList.map fun c => D.str ⟨#[c]⟩)[i]? = some d := hd
    rw [List.getElem?_map] at hd'
    obtain ⟨c, hc, rfl⟩ := Option.map_eq_some_iff.mp hd'
    have hc' : x.cps[i]? = some c := by simpa using hc
    refine ⟨(Array.getElem?_eq_some_iff.mp hc').1, fun y H' hy => ?_⟩
    obtain ⟨rfl, c', h1, rfl⟩ := hy
    rw [hc'] at h1; cases h1
    exact ⟨R, .refl, .str _, fun _ _ h => h⟩
  · have hl' : (x.cps.toList.map fun c => D.str ⟨#[c]⟩).length ≤ i := hl
    show x.cps.size ≤ i
    simpa using hl'
  · show (x.cps.toList.map fun c => D.str ⟨#[c]⟩).length ≤ sizeLine
    exact Nat.le_trans (by simpa using hz) line_ge
def rngD (lo : Int) (n : Nat) : List D := (List.range n).map fun (i : Nat) => D.int (lo + i)
theorem feeds_rng {K : PySem.W.Frag} {H1 : Hp} {ι1 : List Addr} {σ1 : SV} {e1 : En} (lo : Int) (n : Nat) : Feeds K ⟨rngD lo n, []⟩ (Itr lo n) H1 ι1 σ1 e1 := fun i H ι σ e S R P _ _ => by
  refine ⟨fun d hd => ?_, fun hl => ?_⟩
  · have hd' : (rngD lo n)[i]? = some d := hd
    unfold rngD at hd'
    rw [List.getElem?_map] at hd'
    obtain ⟨j, hj, rfl⟩ := Option.map_eq_some_iff.mp hd'
    obtain ⟨h1, h2⟩ := List.getElem?_eq_some_iff.mp hj
    simp at h1 h2
    subst h2
    refine ⟨h1, fun y H' hy => ?_⟩
    obtain ⟨rfl, rfl⟩ := hy
    exact ⟨R, .refl, .int _, fun _ _ h => h⟩
  · have hl' : (rngD lo n).length ≤ i := hl
    show n ≤ i
    simpa [rngD] using hl'
def srcR1 (rs : List R) : M Src := fun e S => match rs with
  | [.d (.int j)] => if -(2 ^ 62) ≤ j ∧ j ≤ 1000000 then some (⟨rngD 0 j.toNat, []⟩, e, S) else none
  | _ => none
def srcR2 (rs : List R) : M Src := fun e S => match rs with
  | [.d (.int i), .d (.int j)] => if (-(2 ^ 62) ≤ i ∧ i < 2 ^ 62 ∧ -(2 ^ 62) ≤ j ∧ j < 2 ^ 62) ∧ (j - i).toNat ≤ 1000000 then some (⟨rngD i (j - i).toNat, []⟩, e, S) else none
  | _ => none
theorem gi_range1 {tg : Expr} (hg : Gl X "range") (hm : X.mg "range" = none) (ha : GA X [a] ms) (hs : starEach [a] X.env = [(false, eval a X.env)] := by rfl) : GI X tg (.Call (.Name "range" p) [a] [] pos) (bnd ms srcR1) :=
  PI.imp (pi_range1 hg hm ha hs) fun σ H Q q => by
    obtain ⟨ι, e, S, src, e', S', R, hm, q⟩ := q
    obtain ⟨rs, e1, S1, h1, hm⟩ := bnd_eq hm
    refine ⟨ι, e, S, rs, e1, S1, R, h1, fun vs H1 ι1 R1 P1 r1 => ?_⟩
    unfold srcR1 at hm
    split at hm
    · split at hm
      · rename_i hz
        cases hm
        cases r1 with
        | cons g1 g2 =>
          cases g2
          cases g1
          refine ⟨_, rfl, hz.1, by omega, q _ H1 ι1 R1 P1 (feeds_rng 0 _) ?_⟩
          show (rngD 0 _).length ≤ _
          refine Nat.le_trans ?_ line_ge
          simp [rngD]; omega
      · cases hm
    · cases hm
/-- what a walked thing reads, as it stands later -/
def SeqAt' (K : PySem.W.Frag) (H1 : Hp) (ι1 : List Addr) (σ1 : SV) (e1 : En) (lst : Bool) (a : Addr) (ds : List D) (ws : List (R × List D)) : Prop :=
  ∀ H ι σ e S, Rel K H ι σ e S → Post H1 ι1 σ1 e1 H ι σ e → Wat ws e S → (∀ p ∈ ws, ∀ j, p.1 = .loc j → σ[j]? = σ1[j]?) → ∃ xs, (if lst then SqL K H a xs else SqT K H a xs) ∧ RDs K H ι xs ds
theorem Rel.walks {K : PySem.W.Frag} {H1 : Hp} {ι1 : List Addr} {σ : SV} {e1 : En} {S1 : Sto} {v : V} {r : R} {src : Src} {e' : En} {S' : Sto} (R1 : Rel K H1 ι1 σ e1 S1) (r1 : RR K H1 ι1 σ e1 v r) (hm : srcOf r e1 S1 = some (src, e', S')) :
    e' = e1 ∧ S' = S1 ∧ ∃ a, v = .ref a ∧ ((∃ ds, r = .d (.tup ds)) → SeqAt' K H1 ι1 σ e1 false a src.items src.ws) ∧ ((∀ ds, r ≠ .d (.tup ds)) → SeqAt' K H1 ι1 σ e1 true a src.items src.ws) ∧ Wat src.ws e1 S1 := by
  unfold srcOf at hm
  split at hm
  · cases hm
    cases r1 with
    | tup g1 g2 => exact ⟨rfl, rfl, _, rfl, fun _ H ι σ2 e S R P _ _ => ⟨_, stay_t P.stay g1, RDs.mono P.stay P.pre _ _ g2⟩, fun h => (h _ rfl).elim, fun _ h => nomatch h⟩
  · cases hm
    cases r1 with
    | lst g1 g2 => exact ⟨rfl, rfl, _, rfl, fun ⟨_, h⟩ => (nomatch h), fun _ H ι σ2 e S R P _ _ => ⟨_, (stay_l P.stay g1).sq, RDs.mono P.stay P.pre _ _ g2⟩, fun _ h => nomatch h⟩
  · cases hm
    obtain ⟨a, rfl, ro, n1, n2⟩ := r1
    exact ⟨rfl, rfl, _, rfl, fun ⟨_, h⟩ => (nomatch h), fun _ H ι σ2 e S R P _ _ => P.list ro n1 fun z => n2 (.of z), fun _ h => nomatch h⟩
  · cases hm
    obtain ⟨a, rfl, ro, n1, n2⟩ := r1
    exact ⟨rfl, rfl, _, rfl, fun ⟨_, h⟩ => (nomatch h), fun _ H ι σ2 e S R P _ _ => P.list ro n1 n2, fun _ h => nomatch h⟩
  · split at hm
    · rename_i n1 n2 n3 n4 _ ds hlk
      cases hm
      obtain ⟨a, xs, rfl, g1, g2⟩ := R1.lookL r1 hlk
      refine ⟨rfl, rfl, a, rfl, fun ⟨ds, h⟩ => (n1 ds h).elim, fun _ H2 ι2 σ2 e2 S2 R2 P2 w1 w2 => ?_, fun p hp => by cases List.mem_singleton.mp hp; exact hlk⟩
      have hl2 := w1 _ (List.mem_singleton.mpr rfl)
      have r2 : RR K H2 ι2 σ2 e2 (.ref a) r := by
        cases r with
        | d x => exact RD.mono P2.stay P2.pre _ _ r1
        | lm i cs => cases hlk
        | loc j =>
          have : σ2[j]? = σ[j]? := w2 _ (List.mem_singleton.mpr rfl) j rfl
          show σ2[j]? = _
          rw [this]
          exact r1
        | new o =>
          cases o with
          | lst ds => exact (n3 ds rfl).elim
          | dct kvs => cases hlk
          | kd kvs => cases hlk
          | tab q => cases hlk
          | ins _ _ _ => cases hlk
          | kx _ => cases hlk
        | brw o =>
          cases o with
          | lst ds => exact (n4 ds rfl).elim
          | dct kvs => cases hlk
          | kd kvs => cases hlk
          | tab q => cases hlk
          | ins _ _ _ => cases hlk
          | kx _ => cases hlk
      obtain ⟨a', xs', ea, g3, g4⟩ := R2.lookL r2 hl2
      cases ea
      exact ⟨xs', g3, g4⟩
    · cases hm
/-- zip of two lists, or of two tuples -/
def zipD (xs ys : List D) : List D := (xs.zip ys).map fun p => .tup [p.1, p.2]
def isTupR : R → Bool
  | .d (.tup _) => true
  | _ => false
def srcZip (rs : List R) : M Src := fun e S => match rs with
  | [r1, r2] => (match srcOf r1 e S, srcOf r2 e S with
    | some (s1, _, _), some (s2, _, _) => if isTupR r1 == isTupR r2 then some (⟨zipD s1.items s2.items, s1.ws ++ s2.ws⟩, e, S) else none
    | _, _ => none)
  | _ => none
end
end G

set_option Elab.async false
set_option linter.all false
set_option maxRecDepth 1000000
set_option maxHeartbeats 2000000
/-! G11: x = [..]; a, b = x, y; recursion; the frame of a def's theorem. -/
namespace G
variable [Wld]
open PySem PySem.Spec PyProof.Rows L2
section
variable {X : Cx}
theorem gs_setLc {i : Nat} {y : Str} {py : Pos} {elt tg iter : Expr} {ifs : List Expr} {scope : Scope} {own : List (Str × Nat)} {pos spos : Pos} {mi : M Src} {t : Tgt} {mc : M Bool} {me : M R}
    (hc : X.calm = true) (hN : X.N.Nodup) (hy : X.N[i]? = some y) (hyl : X.env.scope.names.lookup y = some .local)
    (hsw : swapsWith (.ListComp elt [⟨tg, iter, ifs, 0⟩] scope pos) (some (.Name y py)) spos.line X.env = pure true) (hi : GI X tg iter mi) (ok : BlkOk X.N X.env.scope scope own)
    (hg : ∀ (s : Shared) (H : Hp) (C : Addr) (cl : List (Str × Addr)) (fp : List Addr), GG (X.blk s H scope (compEnvC scope cl C X.env) fp) (own.map (·.2)) tg t)
    (ht : ∀ (s : Shared) (H : Hp) (C : Addr) (cl : List (Str × Addr)) (fp : List Addr), GTs (X.blk s H scope (compEnvC scope cl C X.env) fp) ifs mc)
    (he : ∀ (s : Shared) (H : Hp) (C : Addr) (cl : List (Str × Addr)) (fp : List Addr), GE (X.blk s H scope (compEnvC scope cl C X.env) fp) elt me) (hs : ∀ x, foldedSetIterable iter X.env x = pure x := by intro _; rfl) :
    GS X (.Assign [.Name y py] (.ListComp elt [⟨tg, iter, ifs, 0⟩] scope pos) spos) (mSet i (mLc (own.map (·.2)) t mi mc me)) :=
  PS.imp (ps_setLc hc hN hy hyl hsw hi ok hg (fun s H C cl fp => (ht s H C cl fp).h) he hs) fun D σ H q => by
    obtain ⟨ι, e, S, fl, e', S', R, hm, q⟩ := q
    obtain ⟨r, e1, S1, h1, hm⟩ := bnd_eq hm
    obtain ⟨s, hsl, hil, hz⟩ := setS_eq hm
    cases hz
    refine tLc_of (Q := fun x H1 => gName i x σ H1 D.nx) ⟨ι, e, S, r, e1, _, R, h1, fun v H1 ι1 R1 P1 r1 f1 => ?_⟩
    obtain ⟨R2, P2⟩ := R1.put P1 r1 f1 hsl hil
    exact q _ H1 ι1 R2 P2
/-- a, b = x, y -/
def mPar2 (i j : Nat) (ma mb : M R) : M Fl := bnd ma fun x => bnd mb fun y => mSeq (setS i x) (setS j y)
def mPar3 (i j l : Nat) (ma mb mc : M R) : M Fl := bnd ma fun x => bnd mb fun y => bnd mc fun z => mSeq (setS i x) (mSeq (setS j y) (setS l z))
theorem RR.afterSet {K : PySem.W.Frag} {H : Hp} {ι : List Addr} {σ : SV} {e : En} {v w : V} {r : R} {i : Nat} {s : Sl} (h : RR K H ι σ e v r) (hr : (∃ t, toSl r = some t)) (hi : i < e.length) (hσ : i < σ.length) (hne : ∀ a, v = .ref a → w = .ref a → s.isObj → (∃ o, r = .new o) → False) : RR K H ι (σ.set i (some w)) (e.set i (some s)) v r := by
  obtain ⟨t, hr⟩ := hr
  cases r with
  | d x => exact h
  | new o =>
    obtain ⟨a, rfl, ro, n1, n2⟩ := h
    refine ⟨a, rfl, ro, n1, fun ⟨m, u, h5, h6, h7⟩ => ?_⟩
    by_cases hm : i = m
    · subst hm
      rw [List.getElem?_set_self hi] at h5
      rw [List.getElem?_set_self hσ] at h7
      cases h5
      cases h7
      exact hne a rfl rfl h6 ⟨o, rfl⟩
    · rw [List.getElem?_set_ne hm] at h5 h7
      exact n2 ⟨m, u, h5, h6, h7⟩
  | brw o => cases hr
  | lm i cs => cases hr
  | loc m => cases hr
/-- where an object stands that was there before -/
theorem fresh_ne {K : PySem.W.Frag} {H1 : Hp} {ι : List Addr} {σ : SV} {e : En} {v w : V} {r q : R} {s : Sl} (hv : RR K H1 ι σ e w q) (hq : toSl q = some s) (f : Fresh H1 v r) : ∀ a, v = .ref a → w = .ref a → s.isObj → (∃ o, r = .new o) → False := by
  rintro a rfl rfl hs ⟨o, rfl⟩
  obtain ⟨a', ea, hn⟩ := f
  cases ea
  cases q with
  | d x => cases hq; exact hs
  | new o' =>
    obtain ⟨b, eb, ro, _⟩ := hv
    cases eb
    obtain ⟨u, hu, _⟩ := ro.there
    rw [hn] at hu; cases hu
  | brw o' => cases hq
  | lm i cs => cases hq
  | loc m => cases hq
theorem gs_par2 {i j : Nat} {x y : Str} {a b : Expr} {ma mb : M R} {px py pt pos : Pos} {kt k2 pt2} (hc : X.calm = true) (hN : X.N.Nodup) (hi : X.N[i]? = some x) (hj : X.N[j]? = some y) (hij : i ≠ j)
    (hx : X.env.scope.names.lookup x = some .local) (hy : X.env.scope.names.lookup y = some .local) (ha : GE X a ma) (hb : GE X b mb)
    (hw : swappedStores [.Tuple [.Name x px, .Name y py] kt pt] (.Tuple [a, b] k2 pt2) X.env = pure (some [x, y]))
    (hs : swapsWithSole [.Tuple [.Name x px, .Name y py] kt pt] (.Tuple [a, b] k2 pt2) pos.line X.env = pure false := by rfl)
    (h1 : starEach [a, b] X.env = (false, eval a X.env) :: starEach [b] X.env := by rfl) (h2 : starEach [b] X.env = (false, eval b X.env) :: starEach [] X.env := by rfl) :
    GS X (.Assign [.Tuple [.Name x px, .Name y py] kt pt] (.Tuple [a, b] k2 pt2) pos) (mPar2 i j ma mb) := PS.imp (ps_par hc hN hi hj hij hx hy (pa_cons ha (pa_cons hb pa_nil h2) h1) hw hs) fun D σ H q => by
  obtain ⟨ι, e, S, fl, e', S', R, hm, q⟩ := q
  obtain ⟨r1, e1, S1, h1, hm⟩ := bnd_eq hm
  obtain ⟨r2, e2, S2, h2, hm⟩ := bnd_eq hm
  obtain ⟨f1, e3, S3, h3, hm⟩ := bnd_eq hm
  obtain ⟨s1, hs1, hl1, hz⟩ := setS_eq h3
  cases hz
  obtain ⟨s2, hs2, hl2, hz⟩ := setS_eq hm
  cases hz
  refine ⟨ι, e, S, r1, e1, S1, R, h1, fun v H1 ι1 R1 P1 rr1 fr1 => ⟨ι1, e1, S1, r2, e2, _, R1, h2, fun w H2 ι2 R2 P2 rr2 fr2 => ⟨v, w, rfl, ?_⟩⟩⟩
  have P12 := P1.trans P2
  obtain ⟨R3, P3⟩ := R2.put P12 (rr1.post P2) fr1 hs1 hl1
  have rr2' := rr2.afterSet (s := s1) (w := v) ⟨_, hs2⟩ hl1 (by rw [R2.len]; exact hl1) (fresh_ne rr1 hs1 fr2)
  obtain ⟨R4, P4⟩ := R3.put P3 rr2' (fr2.back P1) hs2 hl2
  exact q _ H2 ι2 R4 P4
theorem gs_par3 {i j l : Nat} {x y z : Str} {a b c : Expr} {ma mb mc : M R} {px py pz pt pos : Pos} {kt k2 pt2} (hc : X.calm = true) (hN : X.N.Nodup) (hi : X.N[i]? = some x) (hj : X.N[j]? = some y) (hl : X.N[l]? = some z) (hij : i ≠ j) (hil : i ≠ l) (hjl : j ≠ l)
    (hx : X.env.scope.names.lookup x = some .local) (hy : X.env.scope.names.lookup y = some .local) (hz : X.env.scope.names.lookup z = some .local) (ha : GE X a ma) (hb : GE X b mb) (hcc : GE X c mc)
    (hw : swappedStores [.Tuple [.Name x px, .Name y py, .Name z pz] kt pt] (.Tuple [a, b, c] k2 pt2) X.env = pure (some [x, y, z]))
    (hs : swapsWithSole [.Tuple [.Name x px, .Name y py, .Name z pz] kt pt] (.Tuple [a, b, c] k2 pt2) pos.line X.env = pure false := by rfl)
    (h1 : starEach [a, b, c] X.env = (false, eval a X.env) :: starEach [b, c] X.env := by rfl) (h2 : starEach [b, c] X.env = (false, eval b X.env) :: starEach [c] X.env := by rfl) (h3 : starEach [c] X.env = (false, eval c X.env) :: starEach [] X.env := by rfl) :
    GS X (.Assign [.Tuple [.Name x px, .Name y py, .Name z pz] kt pt] (.Tuple [a, b, c] k2 pt2) pos) (mPar3 i j l ma mb mc) := PS.imp (ps_par3 hc hN hi hj hl hij hil hjl hx hy hz (pa_cons ha (pa_cons hb (pa_cons hcc pa_nil h3) h2) h1) hw hs) fun D σ H q => by
  obtain ⟨ι, e, S, fl, e', S', R, hm, q⟩ := q
  obtain ⟨r1, e1, S1, h1, hm⟩ := bnd_eq hm
  obtain ⟨r2, e2, S2, h2, hm⟩ := bnd_eq hm
  obtain ⟨r3, e3, S3, h3, hm⟩ := bnd_eq hm
  obtain ⟨f1, e4, S4, h4, hm⟩ := bnd_eq hm
  obtain ⟨s1, hs1, hl1, hz⟩ := setS_eq h4
  cases hz
  obtain ⟨f2, e5, S5, h5, hm⟩ := bnd_eq hm
  obtain ⟨s2, hs2, hl2, hz⟩ := setS_eq h5
  cases hz
  obtain ⟨s3, hs3, hl3, hz⟩ := setS_eq hm
  cases hz
  refine ⟨ι, e, S, r1, e1, S1, R, h1, fun v1 H1 ι1 R1 P1 rr1 fr1 => ⟨ι1, e1, S1, r2, e2, S2, R1, h2, fun v2 H2 ι2 R2 P2 rr2 fr2 => ⟨ι2, e2, S2, r3, e3, _, R2, h3, fun v3 H3 ι3 R3 P3 rr3 fr3 => ⟨v1, v2, v3, rfl, ?_⟩⟩⟩⟩
  have P13 := (P1.trans P2).trans P3
  obtain ⟨R4, P4⟩ := R3.put P13 (rr1.post (P2.trans P3)) fr1 hs1 hl1
  have lσ : i < σ.length := by rw [R3.len]; exact hl1
  have rr2' := (rr2.post P3).afterSet (s := s1) (w := v1) ⟨_, hs2⟩ hl1 lσ (fresh_ne rr1 hs1 fr2)
  obtain ⟨R5, P5⟩ := R4.put P4 rr2' (fr2.back P1) hs2 hl2
  have rr3' := rr3.afterSet (s := s1) (w := v1) ⟨_, hs3⟩ hl1 lσ (fresh_ne (rr1.post P2) hs1 fr3)
  have rr3'' := rr3'.afterSet (s := s2) (w := v2) (i := j) ⟨_, hs3⟩ hl2 (by rw [R4.len]; exact hl2) (fresh_ne rr2 hs2 fr3)
  obtain ⟨R6, P6⟩ := R5.put P5 rr3'' (fr3.back (P1.trans P2)) hs3 hl3
  exact q _ H3 ι3 R6 P6
/-- code that is never come to -/
theorem gss_never {sts : List Stmt} : GSs X sts stk := PSs.imp pss_never fun D σ H q => by
  obtain ⟨ι, e, S, fl, e', S', R, hm, q⟩ := q
  cases hm
end
/-- a def that calls itself, by how deep -/
noncomputable def recF (nl : Nat) (body : Fn → M Fl) : Nat → Fn
  | 0 => fun _ _ => none
  | n + 1 => runF nl (body (recF nl body n))
section
variable {P : Program} {w : World} {K : PySem.W.Frag} {mg : Str → Option Value} {base : Heap}
theorem GF.mk' {x : Str} {k n : Nat} {m : Fn} {f : Addr} {fd : FuncData} {ps : List Str} (ok : FnG P w K mg base k f fd ps (spG K n m)) (hm : mg x = some (.ref f)) (hk : PySem.W.keepIn K (.ref f) = true) (hb : Binds K fd ps []) : GF P w K mg base k x n m := ⟨⟨f, fd, ps, ok, hm, hk, hb⟩⟩
theorem GF.mono {x : Str} {j k n : Nat} {m : Fn} (F : GF P w K mg base j x n m) (h : j ≤ k) : GF P w K mg base k x n m := by
  obtain ⟨f, fd, ps, ok, hm, hk, hb⟩ := F.ex
  exact ⟨⟨f, fd, ps, ok.mono h, hm, hk, hb⟩⟩
/-- a recursion: each depth by the one below -/
theorem GF.recur {x qual : Str} {st : Stmt} {f : Addr} {fd : FuncData} {N ps : List Str} {k : Nat} {body : Fn → M Fl} (F : Fun K x qual st f fd) (Sc : FnScope N ps (defScope st)) (hm : mg x = some (.ref f)) (hb : Binds K fd ps [])
    (h : ∀ (n : Nat) (self : Fn), GF P w K mg base (k + n + 1) x ps.length self → FnG P w K mg base (k + n + 1 + 1) f fd ps (spG K ps.length (runF (N.length - ps.length) (body self)))) :
    ∀ n, GF P w K mg base (k + n + 1) x ps.length (recF (N.length - ps.length) body n)
  | 0 => ⟨⟨f, fd, ps, fn_ok (N := N) (body := stk) F Sc fun cdv A outer s H vs Q E hr hgd => gss_never, hm, F.kp, hb⟩⟩
  | n + 1 => ⟨⟨f, fd, ps, h n _ (GF.recur F Sc hm hb h n), hm, F.kp, hb⟩⟩
end
end G

set_option Elab.async false
set_option linter.all false
set_option maxRecDepth 1000000
set_option maxHeartbeats 2000000
/-! G12: the frame of a law's text. -/
namespace G
variable [Wld]
open PySem PySem.Spec PyProof.Rows L2
structure DF (K : PySem.W.Frag) (mg : Str → Option Value) (x qual : Str) (st : Stmt) (ps : List Str) : Prop where
  ex : ∃ f fd, Fun K x qual st f fd ∧ mg x = some (.ref f) ∧ Binds K fd ps []
section
variable {P : Program} {w : World} {K : PySem.W.Frag} {mg : Str → Option Value} {base : Heap}
theorem GF.bodyOf {x qual : Str} {st : Stmt} {N ps : List Str} {k : Nat} {body : M Fl} (D : DF K mg x qual st ps) (Sc : FnScope N ps (defScope st))
    (h : ∀ (f : Addr) (cdv : Value) (A : Around) (outer : List PySem.Env) (s : Shared) (H : Hp) (vs : List V) (Q : VK) (E : XK), Room k (A.deeper (envOfC qual (defScope st) s.heap.objs.size f cdv)) → (A.deeper (envOfC qual (defScope st) s.heap.objs.size f cdv)).guards = some [] →
      GSs (cxOf CX0 P w K mg base N qual (defScope st) f cdv A outer s H E).nox (defBody st) body) :
    GF P w K mg base (k + 1) x ps.length (runF (N.length - ps.length) body) := by
  obtain ⟨f, fd, F, hm, hb⟩ := D.ex
  exact .mk' (fn_ok F Sc (h f)) hm F.kp hb
theorem GF.recOf {x qual : Str} {st : Stmt} {N ps : List Str} {k : Nat} {body : Fn → M Fl} (D : DF K mg x qual st ps) (Sc : FnScope N ps (defScope st))
    (h : ∀ (n : Nat) (self : Fn), GF P w K mg base (k + n + 1) x ps.length self → ∀ (f : Addr) (cdv : Value) (A : Around) (outer : List PySem.Env) (s : Shared) (H : Hp) (vs : List V) (Q : VK) (E : XK), Room (k + n + 1) (A.deeper (envOfC qual (defScope st) s.heap.objs.size f cdv)) → (A.deeper (envOfC qual (defScope st) s.heap.objs.size f cdv)).guards = some [] →
      GSs (cxOf CX0 P w K mg base N qual (defScope st) f cdv A outer s H E).nox (defBody st) (body self)) :
    ∀ n, GF P w K mg base (k + n + 1) x ps.length (recF (N.length - ps.length) body n) := by
  obtain ⟨f, fd, F, hm, hb⟩ := D.ex
  exact GF.recur F Sc hm hb fun n self S => fn_ok F Sc (h n self S f)
theorem DF.mk' {h : Heap} (X : K.In h) (G : h.Ns mainGlobals mg) {x qual : Str} {st : Stmt} {f : Addr} {fd : FuncData} {ps : List Str} (F : Fun K x qual st f fd) (a : PySem.W.nsIn K mainGlobals x = some (some (.ref f))) (b : Fun K x qual st f fd → Binds K fd ps []) : DF K mg x qual st ps :=
  ⟨⟨f, fd, F, PySem.W.mg_of X G a, b F⟩⟩
/-- the law's promise, from its mirror -/
theorem spG_law {f : Fn} {H : Hp} {a : Addr} {ns : List Int} (hO : Only H) (hS : SqL K H a (ns.map V.int)) {S' : Sto} (h : f [.d (.lst (ns.map D.int))] [] = some (.d (.bl true), S')) : spG K 1 f [.ref a] H (fun v _ => v = .bl true) fun _ _ _ => False := by
  have hl : LF K H a (ns.map V.int) := by
    rcases hS with (h | ⟨o, h⟩) | h
    · rcases hO a with z | ⟨o, xs, z⟩
      · rw [z] at h; cases h
      · rw [z] at h; cases h
    · exact .inl ⟨o, h⟩
    · exact .inr h
  have hr : ∀ (xs : List Int), RDs K H [] (xs.map V.int) (xs.map D.int) := fun xs => by
    induction xs with
    | nil => exact .nil
    | cons x xs ih => exact .cons (.int x) ih
  refine ⟨rfl, [], _, _, _, _, ⟨rfl, fun n o a h => by simp at h, .nil⟩, .cons (s := .d (.lst (ns.map D.int))) (.lst hl (hr ns)) (fun _ _ z => z.elim) (fun z => z) .nil, h, fun v H' ι' R' P' r => ?_⟩
  cases r
  rfl
end
end G

set_option Elab.async false
set_option linter.all false
set_option maxRecDepth 1000000
set_option maxHeartbeats 4000000
/-! G16: constants of a module, {}, t[::-1], len(set(texts)). -/
namespace G
variable [Wld]
open PySem PySem.Spec PyProof.Rows L2
section
variable {X : Cx} {pos : Pos}
theorem ge_gS {x z : Str} (h : ∃ t, X.mg x = some (.str z t)) (hg : Gl X x) (hd : (x == ("__debug__" : Str)) = false := by decide) : GE X (.Name x pos) (mC (.str z)) := by
  obtain ⟨t, h⟩ := h
  exact ge_glob (v := .str z) hg h ⟨t, rfl⟩ (fun _ _ => .str z) hd
theorem ge_gI {x : Str} {i : Int} (h : ∃ t, X.mg x = some (.int i t)) (hg : Gl X x) (hd : (x == ("__debug__" : Str)) = false := by decide) : GE X (.Name x pos) (mC (.int i)) := by
  obtain ⟨t, h⟩ := h
  exact ge_glob (v := .int i) hg h ⟨t, rfl⟩ (fun _ _ => .int i) hd
def mDn : M R := pur (.new (.dct []))
theorem ge_dn : GE X (.Dict [] [] pos) mDn := PE.imp pe_dnewK fun σ H Q q => by
  obtain ⟨ι, e, S, r, e', S', R, hm, q⟩ := q
  cases hm
  intro p hp
  obtain ⟨R2, P2, n1, n2⟩ := R.new (u := .dK []) hp
  exact q _ _ ι R2 P2 ⟨p, rfl, ⟨[], upd_same, .nil⟩, n1, n2⟩ ⟨p, rfl, hp⟩
end
/-! ### t[::-1] of a tuple -/
section
variable {prog : Program} {w : World} {A : Around} {E : Value → Shared → Prop} {s : Shared}
/-- a tuple, backwards -/
theorem getItem_tup_back {t c : Addr} {xs : Array Value} {v1 v2 v3 : Value} {Q : Value → Shared → Prop} (ht : IsTup s.heap t xs) (hc : s.heap.IsSliceOf c v1 v2 v3) (p1 : IsPart v1 none) (p2 : IsPart v2 none) (p3 : IsPart v3 (some (-1)))
    (hz : xs.size ≤ sizeLine) (h : Q (.ref s.heap.objs.size) { s with heap := s.heap.push { cls := .type "tuple", data := .seq xs.toList.reverse.toArray } }) :
    wpAny (model prog w) A (getItem (.ref t) (.ref c)) Q E s := by
  have hfit : sizeOk (.seq xs.toList.reverse.toArray) := by
    show xs.toList.reverse.toArray.size ≤ sizeLine
    rw [List.size_toArray, List.length_reverse, Array.length_toList]; exact hz
  obtain ⟨oc, e1, e2, e3⟩ := id hc
  have hT : s.TypeIs (.ref c) "slice" := ⟨oc, e1, e2⟩
  unfold getItem
  try with_reducible refine wpAny_holding ?_
  first | refine wpAny_bind (wpAny_pure ?_) | skip
  refine wpAny_bind (wpAny_sequenceKey ht.typeIs (by decide) ?_)
  refine wpAny_bind (wpAny_callSpecial?_slot (name := "__getitem__") ht.typeIs slot_tuple_getitem (wpAny_call_entry slot_tuple_getitem ht.typeIs entry_tuple_getitem ?_ (args_tuple_getitem _ _)))
  show wpAny _ _ (Builtin.Tuple.tupleItemsOf (.ref t) >>= _) _ _ s
  refine wpAny_bind (tupleItemsOf_ ht (wpAny_bind (wpAny_typeOf hT ?_)))
  rw [if_pos (by decide)]
  have happ : ∀ {R : Int × Int × Nat → Shared → Prop} {E' : Value → Shared → Prop}, R ((xs.size : Int) - 1, -1, xs.size) s → wpAny (model prog w) A.in1 (Builtin.Slice.sliceApplied (.ref c) (pure (xs.size : Int))) R E' s := fun {R E'} hR => by
    unfold Builtin.Slice.sliceApplied Builtin.Slice.sliceFields
    refine wpAny_bind (wpAny_bind (wpAny_field e1 e3 (x := v1) rfl (wpAny_bind (wpAny_field e1 e3 (x := v2) rfl (wpAny_bind (wpAny_field e1 e3 (x := v3) rfl (wpAny_pure ?_)))))))
    refine wpAny_bind (HT.slicePart_ p3 ?_)
    show wpAny _ _ (if ((-1 : Int) == 0) = true then _ else _) _ _ s
    rw [if_neg (by decide)]
    refine wpAny_bind (HT.slicePart_ p1 (wpAny_bind (HT.slicePart_ p2 (wpAny_bind (wpAny_pure ?_)))))
    have adj : Builtin.Slice.sliceAdjust none none (-1) (xs.size : Int) = ((xs.size : Int) - 1, -1) := rfl
    have pls : Builtin.Slice.slicePlaces ((xs.size : Int) - 1) (-1) (-1) = xs.size := by
      unfold Builtin.Slice.slicePlaces
      rw [if_neg (by decide), show (- (-1 : Int)) = 1 by decide, Int.ediv_one]
      split <;> omega
    show wpAny _ _ (match Builtin.Slice.sliceAdjust none none (-1) (xs.size : Int) with | (lo, hi) => pure (lo, (-1 : Int), Builtin.Slice.slicePlaces lo hi (-1))) _ _ s
    rw [adj]
    show wpAny _ _ (pure (((xs.size : Int) - 1), (-1 : Int), Builtin.Slice.slicePlaces ((xs.size : Int) - 1) (-1) (-1))) _ _ s
    rw [pls]
    exact wpAny_pure hR
  have hpick : ((List.range xs.size).filterMap fun (k : Nat) => xs[(((xs.size : Int) - 1) + (k : Int) * (-1)).toNat]?).toArray = xs.toList.reverse.toArray := by
    have h := PySem.W.krv_pick xs
    unfold slicePick at h
    rw [← h]
    have hb := PySem.W.krv_bounds xs.size
    rw [hb]
    show _ = ((sliceRange ((xs.size : Int) - 1) (-1) (-1)).filterMap (xs[·]?)).toArray
    rw [PySem.W.krv_sliceRange, List.filterMap_map]
    have hc : ∀ l : List Nat, (∀ k ∈ l, k < xs.size) → (l.filterMap fun (k : Nat) => xs[(((xs.size : Int) - 1) + (k : Int) * (-1)).toNat]?) = l.filterMap ((xs[·]?) ∘ fun k => xs.size - 1 - k) := fun l => by
      induction l with
      | nil => intro _; rfl
      | cons k l ih =>
        intro hl
        have hk := hl k (by simp)
        rw [List.filterMap_cons, List.filterMap_cons, ih fun k hk => hl k (by simp [hk]), show (((xs.size : Int) - 1) + (k : Int) * (-1)).toNat = xs.size - 1 - k by omega]
        rfl
    rw [hc _ fun k hk => List.mem_range.mp hk]
  refine wpAny_bind (happ ?_)
  have hno : ¬ (((((xs.size : Int) - 1) == 0) && ((-1 : Int) == 1) && (xs.size == xs.size)) = true) := by
    rw [show ((-1 : Int) == 1) = false by decide, Bool.and_false, Bool.false_and]; exact Bool.false_ne_true
  show wpAny _ _ (if ((((xs.size : Int) - 1) == 0) && ((-1 : Int) == 1) && (xs.size == xs.size)) = true then _ else _) _ _ s
  rw [if_neg hno, hpick]
  first
    | exact wpAny_bind (m := Builtin.Tuple.tupleExact _) (wpAny_newObj_type (wpAny_pure ⟨_, rfl, wpAny_pure h⟩) hfit)
    | exact wpAny_bind (m := Builtin.Tuple.tupleExact _) (wpAny_newObj_type (wpAny_bind (wpAny_pure (wpAny_pure ⟨_, rfl, wpAny_pure h⟩))) hfit)
    | exact wpAny_bind (wpAny_bind (m := Builtin.Tuple.tupleExact _) (wpAny_newObj_type (wpAny_pure (wpAny_pure ⟨_, rfl, wpAny_pure h⟩)) hfit))
    | exact wpAny_bind (wpAny_bind (m := Builtin.Tuple.tupleExact _) (wpAny_newObj_type (wpAny_pure ⟨_, rfl, wpAny_pure h⟩) hfit))
end
section
variable {X : Cx}
def tBackT (K : PySem.W.Frag) (te : TE) : TE := fun σ H Q => te σ H fun x H1 => ∃ a xs, x = .ref a ∧ SqT K H1 a xs ∧ ∀ p us, H1 p = none → Q (.ref p) (upd H1 p (.frz (tpo us) (.tup xs.reverse)))
theorem pe_backT {ex : Expr} {te : TE} {k : Nat} {p1 p2 p3 pos : Pos} (he : PE X ex te) : PE X (.Subscript ex (.Slice none none (some (.UnaryOp .USub (.Constant (.int 1) k p1) p2)) p3) pos) (tBackT X.K te) := by
  refine ⟨fun pins s σ H Q I h => Subscript_ (thn (he.run pins s σ H _ I h) fun v sA ⟨x, HA, IA, rA, a, xs, ex', hx, q⟩ => ?_)⟩
  subst ex'
  cases rA
  have hst : PO X (some (.UnaryOp .USub (.Constant (.int 1) k p1) p2)) (tPart (tUn (rU fun i => .int (-i)) (tC (.int 1)))) := po_some (pe_un un_neg pe_int)
  refine wpAny_Slice (thn (po_none.run pins sA σ HA (fun o G => o = none ∧ G = HA) IA ⟨rfl, rfl⟩) fun v1 sB ⟨o1, HB, IB, q1, w1, z1⟩ => thn (po_none.run pins sB σ HB (fun o G => o = none ∧ G = HB) IB ⟨rfl, rfl⟩) fun v2 sC ⟨o2, HC, IC, q2, w2, z2⟩ =>
    thn (hst.run pins sC σ HC (fun o G => o = some (-1) ∧ G = HC) IC ⟨1, rfl, -1, rfl, rfl, rfl⟩) fun v3 sD ⟨o3, HD, ID, q3, w3, z3⟩ => ?_)
  subst w1 z1 w2 z2 w3 z3
  have J : Inv X pins σ HD { sD with heap := sD.heap.push { cls := .type "slice", data := .fields #[v1, v2, v3] } } := ID.kept (t' := sD.toks) fun b ob z => Heap.get?_push_of_some _ z
  obtain ⟨its, r, ht, hz⟩ := J.tuple hx
  have hsz : its.toArray.size ≤ sizeLine := by rw [List.size_toArray, ← r.length]; exact hz
  show wpAny (model X.prog X.w) X.A (subscriptTail ex (.Slice none none (some (.UnaryOp .USub (.Constant (.int 1) k p1) p2)) p3) (.ref a) (.ref sD.heap.objs.size)) (EP X pins σ Q) X.xe _
  refine tail_any (ops := [.ref a, .ref sD.heap.objs.size]) ht.typeIs slot_tuple_getitem.lookup (getItem_tup_back ht (Heap.IsSliceOf.new _ v1 v2 v3) q1 q2 q3 hsz ?_) (by with_unfolding_all rfl)
  refine ⟨.ref _, _, J.laid (t' := sD.toks) (o := .frz (tpo its.toArray.toList.reverse) (.tup xs.reverse)) (fun b ob z => Heap.get?_push_of_some _ z) (Nat.le_refl _) ?_, rfl, q _ _ (J.hok.fresh (Nat.le_refl _))⟩
  exact ⟨Heap.get?_push_size _ rfl, by rw [List.length_reverse]; exact hz, _, r.reverse, IsTup.new _ _⟩
def gBack (r : R) : M R := fun e S => match r with
  | .d (.tup ds) => some (.d (.tup ds.reverse), e, S)
  | _ => none
theorem ge_backT {ex : Expr} {m : M R} {k : Nat} {p1 p2 p3 pos : Pos} (he : GE X ex m) : GE X (.Subscript ex (.Slice none none (some (.UnaryOp .USub (.Constant (.int 1) k p1) p2)) p3) pos) (bnd m gBack) := PE.imp (pe_backT he) fun σ H Q q => by
  obtain ⟨ι, e, S, r, e', S', R, hm, q⟩ := q
  obtain ⟨x, e1, S1, h1, hm⟩ := bnd_eq hm
  refine ⟨ι, e, S, _, e1, S1, R, h1, fun v H1 ι1 R1 P1 r1 _ => ?_⟩
  unfold gBack at hm
  split at hm
  · cases hm
    cases r1 with
    | tup g1 g2 =>
      refine ⟨_, _, rfl, g1.sq, fun p us hp => ?_⟩
      obtain ⟨R4, P4, _⟩ := R1.new (u := .frz (tpo us) (.tup _)) hp
      exact q _ _ ι1 R4 (P1.trans P4) (.tup .mk (RDs.mono P4.stay P4.pre _ _ g2.reverse)) trivial
  · cases hm
end
end G

set_option Elab.async false
set_option linter.all false
set_option maxRecDepth 1000000
set_option maxHeartbeats 4000000
/-! G17: len(set(a list of texts)). -/
namespace G
variable [Wld]
open PySem PySem.Spec PyProof.Rows L2
/-- each text once, as met -/
def uniq (xs : List Str) : List Str := xs.foldl (fun acc x => if x ∈ acc then acc else acc ++ [x]) []
/-- the set that holds the first i of xs -/
abbrev Held (prog : Program) (w : World) (h : Heap) (S : Addr) (xs : List Str) (i : Nat) : Prop := h.SetOf (PySem.strKind prog w) S (fun y => decide (y ∈ xs.take i)) (uniq (xs.take i)).length
section
variable {prog : Program} {w : World} {A : Around} {R : Result → Shared → Prop} {I : Addr} {fp wr : List Addr} {Gn : Array GenState → Array GenState → Prop} {n : Nat} {P : Nat → Value → Prop} {St : Nat → Shared → Prop}
end
/-- a bare set -/
abbrev bareSet (b : Bool) : PySem.Obj := { cls := .type "set", dict := none, data := .set #[] 0 (.fresh 0 0 b) }
section
variable {prog : Program} {w : World} {A : Around} {E : Value → Shared → Prop} {s : Shared}
end
section
variable {X : Cx}
def tLenTexts (K : PySem.W.Frag) (ta : TE) : TE := fun σ H Q => ta σ H fun x H1 => ∃ (l : Addr) (xs : List Str), x = .ref l ∧ (SqL K H1 l (xs.map V.str) ∨ SqT K H1 l (xs.map V.str)) ∧ xs.length ≤ 4000 ∧ Q (.int ((uniq xs).length : Nat)) H1
def seqU (r : R) (e : En) (S : Sto) : Option (List D) := match r with
  | .d (.tup ds) => some ds
  | r => lstOf r e S
def gLenSet (r : R) : M R := fun e S => (seqU r e S).bind fun ds => (strsOf ds).bind fun xs => if xs.length ≤ 4000 then some (.d (.int ((uniq xs).length : Nat)), e, S) else none
end
end G

set_option Elab.async false
set_option linter.all false
set_option maxRecDepth 100000
set_option maxHeartbeats 4000000
/-! GR: repr, str of data of any depth. -/
namespace G
variable [Wld]
open PySem PySem.Spec PyProof.Rows L2
open PySem.P
theorem showableAll_iff : ∀ {ps : List PyData}, PyData.showableAll ps = true ↔ ∀ q ∈ ps, q.showable = true
  | [] => by simp [PyData.showableAll]
  | p :: ps => by simp [PyData.showableAll, showableAll_iff (ps := ps)]
theorem shownAll_mem : ∀ {ps : List PyData} {t : Str}, t ∈ PyData.shownAll ps → ∃ q ∈ ps, t = q.shown
  | [], _, h => by simp only [PyData.shownAll] at h; cases h
  | p :: ps, t, h => by
    simp only [PyData.shownAll, List.mem_cons] at h
    rcases h with rfl | h
    · exact ⟨p, by simp, rfl⟩
    · obtain ⟨q, hq, e⟩ := shownAll_mem h
      exact ⟨q, by simp [hq], e⟩
def keyP : Key → PyData
  | .inl i => .int i
  | .inr x => .str x
mutual
def pyr : D → Option PyData
  | .non => some .none
  | .bl b => some (.bool b)
  | .int i => some (.int i)
  | .str x => some (.str x)
  | .tup ds => (pyrs ds).map .tuple
  | .lst ds => (pyrs ds).map .list
  | .dic ks ds => (pyrs ds).map fun ps => .dict ((ks.map keyP).zip ps)
  | .ref _ => none
  | .fn _ => none
  | .exc _ _ _ => none
def pyrs : List D → Option (List PyData)
  | [] => some []
  | d :: ds => match pyr d, pyrs ds with
    | some p, some ps => some (p :: ps)
    | _, _ => none
end
theorem pyrs_cons {d : D} {ds : List D} {qs : List PyData} (h : pyrs (d :: ds) = some qs) : ∃ p ps, pyr d = some p ∧ pyrs ds = some ps ∧ qs = p :: ps := by
  unfold pyrs at h
  split at h
  · cases h; exact ⟨_, _, by assumption, by assumption, rfl⟩
  · cases h
theorem pyrs_len : ∀ {ds : List D} {ps : List PyData}, pyrs ds = some ps → ps.length = ds.length
  | [], _, h => by cases h; rfl
  | d :: ds, _, h => by
    obtain ⟨p, ps, h1, h2, rfl⟩ := pyrs_cons h
    simp [pyrs_len h2]
section
variable {K : PySem.W.Frag} {H : Hp} {ι : List Addr} {X : Cx} {pins : List (Addr × PySem.Obj)} {σ : SV} {s : Shared}
/-- what can be shown -/
structure Rep (h : Heap) (u : Value) (p : PyData) : Prop where
  ex : ∃ as bs, Reads h u p as ∧ ReadAtMost h p.depth bs ∧ ∀ prog w, ReprK prog w bs h p.depth u p.shown
  sh : ∀ a, u = .ref a → p.shown.length ≤ sizeLine → ∀ prog w, ∃ T idr, ShowsBy prog w h a p T idr
structure Reps (h : Heap) (us : List Value) (ps : List PyData) : Prop where
  ex : ∃ as bs, ReadsAll h us ps as ∧ ReadAtMost h (PyData.depthAll ps) bs ∧ ∀ prog w, ReprAllK prog w bs h (PyData.depthAll ps) us (PyData.shownAll ps)
theorem Reps.nil {h : Heap} : Reps h [] [] := ⟨⟨[], [], .nil, fun _ z => (nomatch z), fun _ _ => by simp only [PyData.shownAll]; exact .nil⟩⟩
theorem Reps.cons {h : Heap} {u : Value} {us : List Value} {p : PyData} {ps : List PyData} (a : Rep h u p) (b : Reps h us ps) : Reps h (u :: us) (p :: ps) := by
  obtain ⟨⟨as, bs, r1, m1, k1⟩, _⟩ := a
  obtain ⟨as', bs', r2, m2, k2⟩ := b
  refine ⟨⟨as ++ as', bs ++ bs', .cons r1 r2, ?_, fun prog w => ?_⟩⟩
  · simp only [PyData.depthAll]
    exact (m1.mono (Nat.le_max_left _ _)).append (m2.mono (Nat.le_max_right _ _))
  · simp only [PyData.depthAll, PyData.shownAll]
    exact .cons (((k1 prog w).more fun b z => List.mem_append_left _ z).level_le (Nat.le_max_left _ _)) ((k2 prog w).more_le (fun b z => List.mem_append_right _ z) (Nat.le_max_right _ _))
theorem Rep.nil_of {h : Heap} {u : Value} {p : PyData} {as : List Addr} (r : Reads h u p as) (k : ∀ prog w, ReprIs prog w u p.shown) (hn : ∀ a, u ≠ .ref a := by intro a z; cases z) : Rep h u p := ⟨⟨as, [], r, fun _ z => (nomatch z), fun prog w => .of_is (k prog w) _ _ _⟩, fun a e => (hn a e).elim⟩
theorem Rep.tup {h : Heap} {a : Addr} {us : List Value} {ps : List PyData} (t : IsTup h a us.toArray) (b : Reps h us ps) : Rep h (.ref a) (.tuple ps) := by
  obtain ⟨o, e, c, n, d⟩ := t
  obtain ⟨as, bs, r, m, k⟩ := b
  have rr : Reads h (.ref a) (.tuple ps) as := .tuple e c d r
  have hd : PyData.depthAll ps < (PyData.tuple ps).depth := by simp only [PyData.depth]; omega
  have hn := not_mem_of_deeper rr hd m
  refine ⟨⟨as, a :: bs, rr, ReadAtMost.cons rr (by omega) m, fun prog w => ?_⟩, fun a' ea hz prog w => ⟨"tuple", "tuple.__repr__", F.slot_tuple_repr, F.slot_tuple_str, F.slot_tuple_format, ?_, ?_⟩⟩
  · simp only [PyData.depth, PyData.shown]
    exact ReprK.tuple e c d hn (k prog w)
  · cases ea
    exact fun s hk0 => ⟨o, hk0 _ _ e, c⟩
  · cases ea
    intro A E s Q hg hu hk0 hQ
    simp only [PyData.depth] at hu
    simp only [PyData.shown] at hQ hz
    exact call_tuple_reprK e c d hn (k prog w) hg (fun b _ => Clear.nil b) hu hk0 hQ hz
theorem Rep.lst {h : Heap} {a : Addr} {us : List Value} {ps : List PyData} (t : h.IsList a us.toArray) (b : Reps h us ps) : Rep h (.ref a) (.list ps) := by
  obtain ⟨o, e, c, n, d⟩ := t
  obtain ⟨as, bs, r, m, k⟩ := b
  have rr : Reads h (.ref a) (.list ps) (a :: as) := .list e c d r
  have hd : PyData.depthAll ps < (PyData.list ps).depth := by simp only [PyData.depth]; omega
  have hn := not_mem_of_deeper rr hd m
  refine ⟨⟨a :: as, a :: bs, rr, ReadAtMost.cons rr (by omega) m, fun prog w => ?_⟩, fun a' ea hz prog w => ⟨"list", "list.__repr__", F.slot_list_repr.toG, F.slot_list_str, F.slot_list_format, ?_, ?_⟩⟩
  · simp only [PyData.depth, PyData.shown]
    cases us with
    | nil =>
      cases r
      simp only [PyData.shownAll, listText_nil]
      exact ReprK.listEmpty e c d
    | cons x l =>
      have kk := k prog w
      exact ReprK.list e c d hn (by simpa using kk.length_eq) fun i y z => kk.item i y (by simpa using z)
  · cases ea
    exact fun s hk0 => ⟨o, hk0 _ _ e, c⟩
  · cases ea
    intro A E s Q hg hu hk0 hQ
    simp only [PyData.depth] at hu
    simp only [PyData.shown] at hQ hz
    cases us with
    | nil =>
      cases r
      simp only [PyData.shownAll, listText_nil] at hQ
      exact call_list_repr_empty ⟨o, hk0 _ _ e, c⟩ (hk0 _ _ e) d (hQ s.heap _ _ fun _ _ e => e)
    | cons x l =>
      have kk := k prog w
      exact call_list_reprK e c d hn (by simpa using kk.length_eq) (fun i y z => kk.item i y (by simpa using z)) hg (fun b _ => Clear.nil b) hu hk0 hQ hz
theorem ReprEntriesK.both {prog : Program} {w : World} {as : List Addr} {h : Heap} {d : Nat} : ∀ (es : List DictEntry) (ks vs : List PyData), ks.length = vs.length → ReprAllK prog w as h d (es.map (·.key)) (PyData.shownAll ks) → ReprAllK prog w as h d (es.map (·.val)) (PyData.shownAll vs) → ReprEntriesK prog w as h d es (PyData.shownKv (ks.zip vs))
  | [], [], [], _, _, _ => by simp only [List.zip_nil_left, PyData.shownKv]; exact .nil
  | e :: es, k :: ks, v :: vs, hl, h1, h2 => by
    simp only [List.map_cons, PyData.shownAll] at h1 h2
    cases h1 with | cons a1 b1 =>
    cases h2 with | cons a2 b2 =>
    simp only [List.zip_cons_cons, PyData.shownKv]
    exact .cons a1 a2 (ReprEntriesK.both es ks vs (by simpa using hl) b1 b2)
  | [], k :: ks, _, _, h1, _ => by simp only [List.map_nil, PyData.shownAll] at h1; cases h1
  | e :: es, [], _, _, h1, _ => by simp only [List.map_cons, PyData.shownAll] at h1; cases h1
theorem depthAll_zip : ∀ (ks vs : List PyData), ks.length = vs.length → PyData.depthAll ks ≤ PyData.depthKv (ks.zip vs) ∧ PyData.depthAll vs ≤ PyData.depthKv (ks.zip vs)
  | [], [], _ => by simp [PyData.depthAll, PyData.depthKv]
  | k :: ks, v :: vs, h => by
    obtain ⟨a, b⟩ := depthAll_zip ks vs (by simpa using h)
    simp only [List.zip_cons_cons, PyData.depthAll, PyData.depthKv]
    omega
theorem Rep.dic {h : Heap} {a : Addr} {o : PySem.Obj} {es : Array DictEntry} {n : Nat} {ks vs : List PyData} (hs : (a == sysModules) = false) (e : h.get? a = some o) (c : o.cls = .type "dict") (d : o.data = .dict es n) (hl : ks.length = vs.length)
    (b1 : Reps h (es.toList.map (·.key)) ks) (b2 : Reps h (es.toList.map (·.val)) vs) : Rep h (.ref a) (.dict (ks.zip vs)) := by
  obtain ⟨as, bs, r, m, k⟩ := b1
  obtain ⟨as', bs', r', m', k'⟩ := b2
  obtain ⟨d1, d2⟩ := depthAll_zip ks vs hl
  have rr : Reads h (.ref a) (.dict (ks.zip vs)) (a :: as ++ as') := .dict e c d (by rw [List.map_fst_zip (by omega)]; exact r) (by rw [List.map_snd_zip (by omega)]; exact r')
  have hd : PyData.depthKv (ks.zip vs) < (PyData.dict (ks.zip vs)).depth := by simp only [PyData.depth]; omega
  have mm := (m.mono d1).append (m'.mono d2)
  have hn := not_mem_of_deeper rr hd mm
  have ke := fun prog w => ReprEntriesK.both es.toList ks vs hl ((k prog w).more_le (fun b z => List.mem_append_left _ z) d1) ((k' prog w).more_le (fun b z => List.mem_append_right _ z) d2)
  refine ⟨⟨_, a :: (bs ++ bs'), rr, ReadAtMost.cons rr (by omega) mm, fun prog w => ?_⟩, fun a' ea hz prog w => ⟨"dict", "dict.__repr__", F.slot_dict_repr, F.slot_dict_str, F.slot_dict_format, ?_, ?_⟩⟩
  · simp only [PyData.depth, PyData.shown]
    exact ReprK.dict e c d hs hn (ke prog w)
  · cases ea
    exact fun s hk0 => ⟨o, hk0 _ _ e, c⟩
  · cases ea
    intro A E s Q hg hu hk0 hQ
    simp only [PyData.depth] at hu
    simp only [PyData.shown] at hQ hz
    exact call_dict_reprK e c d hs hn (ke prog w) hg (fun b _ => Clear.nil b) hu hk0 hQ hz
/-- small enough to be shown -/
def fitsP (p : PyData) : Prop := p.showable = true ∧ p.shown.length ≤ sizeLine
theorem keys_rep {h : Heap} {P : Program} {w : World} : ∀ {es : List DictEntry} {kvs : List (Key × Value)}, PySem.Pairs (mixKind P w) es kvs → (∀ k ∈ kvs.map (·.1), fitsP (keyP k)) → Reps h (es.map (·.key)) (kvs.map fun kv => keyP kv.1)
  | _, _, .nil, _ => .nil
  | _, _, .cons (e := e) (kv := kv) h1 _ h3, w => by
    refine .cons ?_ (keys_rep h3 fun k hk => w k (by simp only [List.map_cons, List.mem_cons]; exact .inr hk))
    have hw := w kv.1 (by simp)
    obtain ⟨k, v⟩ := kv
    rcases keyIs_shape (show keyIs k e.key = true from h1) with ⟨i, t, e1, e2⟩ | ⟨x, t, e1, e2⟩
    · subst e1
      show Rep h e.key (keyP (.inl i))
      rw [e2]
      exact Rep.nil_of (.int i t) fun _ _ => by simp only [keyP, PyData.shown]; exact ReprIs.int t (by simpa [fitsP, keyP, PyData.showable] using hw.1)
    · subst e1
      show Rep h e.key (keyP (.inr x))
      rw [e2]
      exact Rep.nil_of (.str x t) fun _ _ => by simp only [keyP, PyData.shown]; exact ReprIs.str x t (by simpa [fitsP, keyP, PyData.shown] using hw.2)
theorem vals_pairs {P : Program} {w : World} : ∀ {es : List DictEntry} {kvs : List (Key × Value)}, PySem.Pairs (mixKind P w) es kvs → es.map (·.val) = kvs.map (·.2)
  | _, _, .nil => rfl
  | _, _, .cons h1 h2 h3 => by rw [List.map_cons, List.map_cons, vals_pairs h3, h2]
mutual
theorem RD.rep (I : Inv X pins σ H s) : ∀ (d : D) (v : V) (u : Value) (p : PyData), RD X.K H ι v d → RelV v u → pyr d = some p → fitsP p → Rep s.heap u p
  | .non, _, _, _, h, r, e, _ => by cases h; cases r; cases e; exact .nil_of .none fun _ _ => by simp only [PyData.shown]; exact ReprIs.none
  | .bl b, _, _, _, h, r, e, _ => by cases h; cases r; cases e; exact .nil_of (.bool b) fun _ _ => by simp only [PyData.shown]; exact ReprIs.bool b
  | .int i, _, _, _, h, r, e, f => by cases h; obtain ⟨t, rfl⟩ := r; cases e; exact .nil_of (.int i t) fun _ _ => by simp only [PyData.shown]; exact ReprIs.int t (by simpa [fitsP, PyData.showable] using f.1)
  | .str x, _, _, _, h, r, e, f => by cases h; obtain ⟨t, rfl⟩ := r; cases e; exact .nil_of (.str x t) fun _ _ => by simp only [PyData.shown]; exact ReprIs.str x t (by simpa [fitsP, PyData.shown] using f.2)
  | .tup ds, _, _, _, h, r, e, f => by
    obtain ⟨ps, e1, e2⟩ := Option.map_eq_some_iff.mp (show (pyrs ds).map PyData.tuple = some _ from e)
    subst e2
    cases h with | tup h1 h2 =>
    cases r
    obtain ⟨its, rv, t, _⟩ := I.tuple h1.sq
    exact .tup t (RDs.rep I ds _ _ _ h2 rv e1 (by simpa [fitsP, PyData.showable] using f.1) fun x hx => Nat.le_trans (tupleText_mem_le hx) (by simpa [fitsP, PyData.shown] using f.2))
  | .lst ds, _, _, _, h, r, e, f => by
    obtain ⟨ps, e1, e2⟩ := Option.map_eq_some_iff.mp (show (pyrs ds).map PyData.list = some _ from e)
    subst e2
    cases h with | lst h1 h2 =>
    cases r
    obtain ⟨its, rv, t, _⟩ := I.list h1.sq
    exact .lst t.isList (RDs.rep I ds _ _ _ h2 rv e1 (by simpa [fitsP, PyData.showable] using f.1) fun x hx => Nat.le_trans (listText_mem_le hx) (by simpa [fitsP, PyData.shown] using f.2))
  | .dic ks ds, _, _, _, h, r, e, f => by
    obtain ⟨ps, e1, e2⟩ := Option.map_eq_some_iff.mp (show (pyrs ds).map (fun ps => PyData.dict ((ks.map keyP).zip ps)) = some _ from e)
    subst e2
    cases h with | dic h1 hl h2 =>
    cases r
    rename_i a o xs
    obtain ⟨_, hs, vs, rv, ob, es, ep, eo, hx, hd, _, hp, hnd⟩ := dk_rd I.hok (.inr ⟨o, h1⟩)
    have lx := h2.length
    have lp := pyrs_len e1
    have hks : vs.map (·.1) = ks := by
      have : (ks.zip xs).map (·.1) = vs.map (·.1) := by
        clear e f hp hnd
        generalize ks.zip xs = zs at rv
        induction rv with
        | nil => rfl
        | cons q _ ih => rw [List.map_cons, List.map_cons, ih, q.1]
      rw [← this, List.map_fst_zip (by omega)]
    have hvs : Vals xs (vs.map (·.2)) := by
      have : Vals ((ks.zip xs).map (·.2)) (vs.map (·.2)) := by
        clear e f hp hks hnd
        generalize ks.zip xs = zs at rv
        induction rv with
        | nil => exact .nil
        | cons q _ ih => exact .cons q.2 ih
      rwa [List.map_snd_zip (by omega)] at this
    have hfk : ∀ kv ∈ (ks.map keyP).zip ps, fitsP kv.1 ∧ kv.2.showable = true ∧ kv.2.shown.length ≤ sizeLine := by
      have f1 : PyData.showableKv ((ks.map keyP).zip ps) = true := by simpa [fitsP, PyData.showable] using f.1
      have f2 : ∀ x ∈ PyData.shownKv ((ks.map keyP).zip ps), x.length ≤ sizeLine := fun x hx => Nat.le_trans (dictText_mem_le hx) (by simpa [fitsP, PyData.shown] using f.2)
      clear e f hp
      generalize (ks.map keyP).zip ps = zs at f1 f2
      induction zs with
      | nil => intro kv hkv; cases hkv
      | cons z zs ih =>
        obtain ⟨k, v⟩ := z
        simp only [PyData.showableKv, Bool.and_eq_true] at f1
        simp only [PyData.shownKv] at f2
        have l0 := f2 _ (List.mem_cons_self ..)
        rw [strLen_append, strLen_append] at l0
        intro kv hkv
        rcases List.mem_cons.mp hkv with rfl | hkv
        · exact ⟨⟨f1.1.1, by show k.shown.length ≤ _; omega⟩, f1.1.2, by show v.shown.length ≤ _; omega⟩
        · exact ih f1.2 (fun x hx => f2 x (List.mem_cons_of_mem _ hx)) kv hkv
    have b1 : Reps s.heap (es.toList.map (·.key)) (ks.map keyP) := by
      have := keys_rep (h := s.heap) hp fun k hk => by
        rw [hks] at hk
        have : keyP k ∈ ((ks.map keyP).zip ps).map (·.1) := by rw [List.map_fst_zip (by simp; omega)]; exact List.mem_map_of_mem hk
        obtain ⟨q, hq, e⟩ := List.mem_map.mp this
        rw [← e]; exact (hfk q hq).1
      rw [← hks, List.map_map]
      exact this
    have b2 : Reps s.heap (es.toList.map (·.val)) ps := by
      rw [vals_pairs hp]
      refine RDs.rep I ds xs _ ps h2 hvs e1 ?_ ?_
      · rw [showableAll_iff]
        intro q hq
        have : q ∈ ((ks.map keyP).zip ps).map (·.2) := by rw [List.map_snd_zip (by simp; omega)]; exact hq
        obtain ⟨z, hz, e⟩ := List.mem_map.mp this
        rw [← e]; exact (hfk z hz).2.1
      · intro t ht
        obtain ⟨q, hq, e⟩ := shownAll_mem ht
        have : q ∈ ((ks.map keyP).zip ps).map (·.2) := by rw [List.map_snd_zip (by simp; omega)]; exact hq
        obtain ⟨z, hz, e'⟩ := List.mem_map.mp this
        rw [e, ← e']; exact (hfk z hz).2.2
    exact .dic hs eo hx.1 hd (by simp; omega) b1 b2
  | .ref _, _, _, _, _, _, e, _ => by cases e
  | .fn _, _, _, _, _, _, e, _ => by cases e
theorem RDs.rep (I : Inv X pins σ H s) : ∀ (ds : List D) (vs : List V) (us : List Value) (ps : List PyData), RDs X.K H ι vs ds → Vals vs us → pyrs ds = some ps → PyData.showableAll ps = true → (∀ t ∈ PyData.shownAll ps, t.length ≤ sizeLine) → Reps s.heap us ps
  | [], _, _, _, h, r, e, _, _ => by cases h; cases r; cases e; exact .nil
  | d :: ds, _, _, _, h, r, e, f, g => by
    obtain ⟨p, ps, e1, e2, rfl⟩ := pyrs_cons e
    cases h with | cons h1 h2 =>
    cases r with | cons r1 r2 =>
    simp only [PyData.showableAll, Bool.and_eq_true] at f
    simp only [PyData.shownAll] at g
    exact .cons (RD.rep I d _ _ p h1 r1 e1 ⟨f.1, g _ (List.mem_cons_self ..)⟩) (RDs.rep I ds _ _ ps h2 r2 e2 f.2 fun t ht => g t (List.mem_cons_of_mem _ ht))
end
end
section
variable {X : Cx}
theorem RDw.rep {H : Hp} {ι : List Addr} {pins : List (Addr × PySem.Obj)} {σ : SV} {s : Shared} (I : Inv X pins σ H s) {v : V} {u : Value} {d : D} {p : PyData} (h : RDw X.K H ι v d) (r : RelV v u) (e : pyr d = some p) (f : fitsP p) : Rep s.heap u p := by
  rcases h with h | ⟨a, xs, ds, rfl, rfl, h1, h2⟩
  · exact RD.rep I d v u p h r e f
  · obtain ⟨ps, e1, e2⟩ := Option.map_eq_some_iff.mp (show (pyrs ds).map PyData.list = some _ from e)
    subst e2
    cases r
    obtain ⟨its, rv, t, _⟩ := I.list h1
    exact .lst t.isList (RDs.rep I ds _ _ _ h2 rv e1 (by simpa [fitsP, PyData.showable] using f.1) fun x hx => Nat.le_trans (listText_mem_le hx) (by simpa [fitsP, PyData.shown] using f.2))
section
variable {prog : Program} {w : World} {A : Around} {E : Value → Shared → Prop} {s : Shared} {Q : Value → Shared → Prop} {u : Value} {p : PyData}
theorem repr_of (h : Rep s.heap u p) (f : fitsP p) (hg : A.guards = some []) (hu : A.units + (p.depth + 1) < cLine)
    (hQ : ∀ h' t tk, (∀ b o, s.heap.get? b = some o → h'.get? b = some o) → Q (.str p.shown t) { s with heap := h', toks := tk }) : wpAny (model prog w) A (call (.builtin "repr") [u]) Q E s := by
  obtain ⟨⟨as, bs, r, _, _⟩, sh⟩ := h
  have st : ∀ t tk, Q (.str p.shown t) { s with toks := tk } := fun t tk => hQ s.heap t tk fun _ _ e => e
  cases r with
  | none => simp only [PyData.shown] at st; exact repr_of_none (st _ _)
  | bool b => simp only [PyData.shown] at st; exact repr_of_bool (st _ _)
  | int i t => simp only [PyData.shown] at st; exact repr_of_int (by simpa [fitsP, PyData.showable] using f.1) (st _ _)
  | str x t => simp only [PyData.shown] at st; exact repr_of_str (st _ _) (by simpa [fitsP, PyData.shown] using f.2)
  | list h1 h2 h3 h4 => 
    obtain ⟨T, idr, S⟩ := sh _ rfl f.2 prog w
    exact call_repr_slot (by omega) (S.typeIs s fun _ _ e => e) S.slotRepr (S.call A.in1 E s _ hg (by show A.units + 1 + _ < cLine; omega) (fun _ _ e => e) fun h' t tk hk => ⟨_, _, rfl, hQ h' t tk hk⟩)
  | tuple h1 h2 h3 h4 => 
    obtain ⟨T, idr, S⟩ := sh _ rfl f.2 prog w
    exact call_repr_slot (by omega) (S.typeIs s fun _ _ e => e) S.slotRepr (S.call A.in1 E s _ hg (by show A.units + 1 + _ < cLine; omega) (fun _ _ e => e) fun h' t tk hk => ⟨_, _, rfl, hQ h' t tk hk⟩)
  | dict h1 h2 h3 h4 h5 => 
    obtain ⟨T, idr, S⟩ := sh _ rfl f.2 prog w
    exact call_repr_slot (by omega) (S.typeIs s fun _ _ e => e) S.slotRepr (S.call A.in1 E s _ hg (by show A.units + 1 + _ < cLine; omega) (fun _ _ e => e) fun h' t tk hk => ⟨_, _, rfl, hQ h' t tk hk⟩)
end
/-- repr(e), str(e): of a text str tells itself -/
def shownD (x : D) : Option Str := match pyr x with
  | some p => if p.showable && decide (p.shown.length ≤ sizeLine) && decide (p.depth ≤ 60) then some p.shown else none
  | none => none
def gRepr (r : R) : M R := fun e S => (dat r e S).bind fun x => (shownD x).map fun t => (.d (.str t), e, S)
def gStr (r : R) : M R := fun e S => match r with
  | .d (.str x) => some (.d (.str x), e, S)
  | r => (dat r e S).bind fun x => (shownD x).map fun t => (.d (.str t), e, S)
theorem shownD_eq {x : D} {t : Str} (h : shownD x = some t) : ∃ p, pyr x = some p ∧ fitsP p ∧ p.depth ≤ 60 ∧ t = p.shown := by
  unfold shownD at h
  split at h
  · split at h
    · cases h
      rename_i p h1 h2
      simp only [Bool.and_eq_true, decide_eq_true_eq] at h2
      exact ⟨p, h1, ⟨h2.1.1, h2.1.2⟩, h2.2, rfl⟩
    · cases h
  · cases h
theorem cg_repr (hg : X.A.guards = some []) (hu : X.A.units + 64 < cLine) : CallR X (.builtin "repr") (tOA X.K (g1 gRepr)) := fun pins s σ H xs us Q I rx q => by
  obtain ⟨ι, σ', e, S, rs, r, e', S', R, hr, hm, q⟩ := q
  unfold g1 at hm
  split at hm
  · cases hr with | cons h1 h2 =>
    cases h2
    cases rx with | cons k1 k2 =>
    cases k2
    obtain ⟨x, hx, hm⟩ := Option.bind_eq_some_iff.mp hm
    obtain ⟨t, ht, hz⟩ := Option.map_eq_some_iff.mp hm
    cases hz
    obtain ⟨p, hp, f, hd, rfl⟩ := shownD_eq ht
    have rep := RDw.rep I (R.datW h1 hx) k1 hp f
    exact repr_of rep f hg (by omega) fun h' t tk hk => ⟨.str p.shown, H, I.kept hk, ⟨t, rfl⟩, q _ H ι R .refl (.str _) trivial⟩
  · cases hm
end
end G

set_option Elab.async false
set_option linter.all false
set_option maxRecDepth 1000000
set_option maxHeartbeats 4000000
/-! GS: further methods. -/
namespace G
variable [Wld]
open PySem PySem.Spec PyProof.Rows L2
section
variable {X : Cx}
def gUpper (r : R) (rs : List R) : M R := fun e S => match r, rs with
  | .d (.str x), [] => if x.length ≤ 1000000 then some (.d (.str (Txt.upper x)), e, S) else none
  | _, _ => none
end
end G

set_option Elab.async false
set_option linter.all false
set_option maxRecDepth 1000000
set_option maxHeartbeats 2000000
/-! G13: what a mirror comes to: a small calculus. -/
namespace G
variable [Wld]
open PySem PySem.Spec PyProof.Rows L2
/-- m comes to something of Q -/
def Wp {α : Type} (m : M α) (e : En) (S : Sto) (Q : α → En → Sto → Prop) : Prop := ∃ a e' S', m e S = some (a, e', S') ∧ Q a e' S'
def Fp (f : Fn) (sls : List Sl) (S : Sto) (Q : Rt → Sto → Prop) : Prop := ∃ r S', f sls S = some (r, S') ∧ Q r S'
theorem Wp.mono {α : Type} {m : M α} {e : En} {S : Sto} {Q Q' : α → En → Sto → Prop} (h : Wp m e S Q) (w : ∀ a e S, Q a e S → Q' a e S) : Wp m e S Q' := let ⟨a, e', S', h1, h2⟩ := h; ⟨a, e', S', h1, w _ _ _ h2⟩
theorem Fp.mono {f : Fn} {sls : List Sl} {S : Sto} {Q Q' : Rt → Sto → Prop} (h : Fp f sls S Q) (w : ∀ a S, Q a S → Q' a S) : Fp f sls S Q' := let ⟨a, S', h1, h2⟩ := h; ⟨a, S', h1, w _ _ h2⟩
section
variable {α β : Type} {e : En} {S : Sto}
@[simp] theorem wp_bnd {m : M α} {f : α → M β} {Q : β → En → Sto → Prop} : Wp (bnd m f) e S Q ↔ Wp m e S fun a e1 S1 => Wp (f a) e1 S1 Q := by
  unfold Wp bnd
  constructor
  · rintro ⟨b, e2, S2, h, q⟩
    split at h
    · exact ⟨_, _, _, by assumption, _, _, _, h, q⟩
    · cases h
  · rintro ⟨a, e1, S1, h1, b, e2, S2, h2, q⟩
    exact ⟨b, e2, S2, by rw [h1]; exact h2, q⟩
@[simp] theorem wp_pur {a : α} {Q : α → En → Sto → Prop} : Wp (pur a) e S Q ↔ Q a e S := ⟨fun ⟨_, _, _, h, q⟩ => by cases h; exact q, fun q => ⟨_, _, _, rfl, q⟩⟩
@[simp] theorem wp_stk {Q : α → En → Sto → Prop} : Wp (stk : M α) e S Q ↔ False := ⟨fun h => let ⟨_, _, _, h, q⟩ := h; (nomatch h), fun q => q.elim⟩
theorem wp_some {m : M α} {Q : α → En → Sto → Prop} {a : α} {e' : En} {S' : Sto} (h : m e S = some (a, e', S')) : Wp m e S Q ↔ Q a e' S' := ⟨fun ⟨_, _, _, h', q⟩ => by rw [h] at h'; cases h'; exact q, fun q => ⟨_, _, _, h, q⟩⟩
theorem wp_ite {c : Prop} [Decidable c] {a b : M α} {Q : α → En → Sto → Prop} : Wp (if c then a else b) e S Q ↔ if c then Wp a e S Q else Wp b e S Q := by split <;> rfl
@[simp] theorem wp_mC {x : D} {Q : R → En → Sto → Prop} : Wp (mC x) e S Q ↔ Q (.d x) e S := wp_pur
variable {Q : R → En → Sto → Prop} {ma mb mc : M R} {g g' : R → R → M R}
@[simp] theorem wp_mBin : Wp (mBin g ma mb) e S Q ↔ Wp ma e S fun x e1 S1 => Wp mb e1 S1 fun y e2 S2 => Wp (g x y) e2 S2 Q := by simp [mBin]
@[simp] theorem wp_mUn {f : R → M R} : Wp (mUn f ma) e S Q ↔ Wp ma e S fun x e1 S1 => Wp (f x) e1 S1 Q := by simp [mUn]
theorem wp_var_d {i : Nat} {x : D} (h : e[i]? = some (some (.d x))) : Wp (mVar i) e S Q ↔ Q (.d x) e S := wp_some (by unfold mVar; rw [h])
theorem wp_mVar {i : Nat} : Wp (mVar i) e S Q ↔ match e[i]? with
    | some (some (.d x)) => Q (.d x) e S
    | some (some (.own _)) => Q (.loc i) e S
    | some (some (.brw o)) => Q (.brw o) e S
    | some (some (.lm i cs)) => Q (.lm i cs) e S
    | _ => False := by
  have hr : ∀ (r : R), mVar i e S = some (r, e, S) → (Wp (mVar i) e S Q ↔ Q r e S) := fun r h => wp_some h
  have hn : mVar i e S = none → (Wp (mVar i) e S Q ↔ False) := fun h => ⟨fun q => (let ⟨_, _, _, h', _⟩ := q; nomatch (h.symm.trans h')), fun h => h.elim⟩
  rcases h : e[i]? with _ | _ | x | x | x | ⟨i, cs⟩
  · exact hn (by simp [mVar, h])
  · exact hn (by simp [mVar, h])
  · exact hr _ (by simp [mVar, h])
  · exact hr _ (by simp [mVar, h])
  · exact hr _ (by simp [mVar, h])
  · exact hr _ (by simp [mVar, h])
@[simp] theorem wp_gP {f : D → D → Option D} {x y : D} : Wp (gP f (.d x) (.d y)) e S Q ↔ ∃ d, f x y = some d ∧ Q (.d d) e S := by
  unfold Wp gP
  simp only [Option.map_eq_some_iff]
  constructor
  · rintro ⟨a, e', S', ⟨d, hd, h⟩, q⟩; cases h; exact ⟨d, hd, q⟩
  · rintro ⟨d, hd, q⟩; exact ⟨_, _, _, ⟨d, hd, rfl⟩, q⟩
@[simp] theorem wp_mIf {β : Type} {c : M Bool} {a b : M β} {Q : β → En → Sto → Prop} : Wp (mIf c a b) e S Q ↔ Wp c e S fun x e1 S1 => if x = true then Wp a e1 S1 Q else Wp b e1 S1 Q := by simp [mIf, wp_ite]
@[simp] theorem wp_mNot {c : M Bool} {Q : Bool → En → Sto → Prop} : Wp (mNot c) e S Q ↔ Wp c e S fun x e1 S1 => Q (!x) e1 S1 := by simp [mNot]
@[simp] theorem wp_mAnd {c d : M Bool} {Q : Bool → En → Sto → Prop} : Wp (mAnd c d) e S Q ↔ Wp c e S fun x e1 S1 => if x = true then Wp d e1 S1 Q else Q false e1 S1 := by simp [mAnd, wp_ite]
@[simp] theorem wp_mOr {c d : M Bool} {Q : Bool → En → Sto → Prop} : Wp (mOr c d) e S Q ↔ Wp c e S fun x e1 S1 => if x = true then Q true e1 S1 else Wp d e1 S1 Q := by simp [mOr, wp_ite]
@[simp] theorem wp_asB {r : R} {Q : Bool → En → Sto → Prop} : Wp (asB r) e S Q ↔ ∃ b, r = .d (.bl b) ∧ Q b e S := by
  unfold asB
  split
  · simp
  · rename_i h
    simp only [wp_stk, false_iff]
    rintro ⟨b, rfl, _⟩
    exact h b rfl
@[simp] theorem wp_mAndV : Wp (mAndV ma mb) e S Q ↔ Wp ma e S fun r e1 S1 => ∃ b, r = .d (.bl b) ∧ if b = true then Wp mb e1 S1 Q else Q (.d (.bl false)) e1 S1 := by simp [mAndV, wp_ite]
@[simp] theorem wp_mOrV : Wp (mOrV ma mb) e S Q ↔ Wp ma e S fun r e1 S1 => ∃ b, r = .d (.bl b) ∧ if b = true then Q (.d (.bl true)) e1 S1 else Wp mb e1 S1 Q := by simp [mOrV, wp_ite]
@[simp] theorem wp_mNotV : Wp (mNotV ma) e S Q ↔ Wp ma e S fun r e1 S1 => ∃ b, r = .d (.bl b) ∧ Q (.d (.bl (!b))) e1 S1 := by simp [mNotV]
@[simp] theorem wp_gIsN {neg : Bool} {x : D} : Wp (gIsN neg (.d x) (.d .non)) e S Q ↔ Q (.d (.bl (isNon x != neg))) e S := wp_some rfl
/-! lists of results -/
variable {ms : M (List R)}
@[simp] theorem wp_mNil {Q : List R → En → Sto → Prop} : Wp mNil e S Q ↔ Q [] e S := wp_pur
@[simp] theorem wp_mCons {Q : List R → En → Sto → Prop} : Wp (mCons ma ms) e S Q ↔ Wp ma e S fun x e1 S1 => Wp ms e1 S1 fun xs e2 S2 => Q (x :: xs) e2 S2 := by simp [mCons]
theorem wp_dispOf {f : List D → R} {rs : List R} : Wp (dispOf f rs) e S Q ↔ ∃ ds, dsOf rs = some ds ∧ ds.length ≤ 1000 ∧ Q (f ds) e S := by
  constructor
  · rintro ⟨a, e', S', h, q⟩
    obtain ⟨ds, h1, h2, h3⟩ := dispOf_eq h
    cases h3
    exact ⟨ds, h1, h2, q⟩
  · rintro ⟨ds, h1, h2, q⟩
    exact ⟨f ds, e, S, by unfold dispOf; rw [h1]; simp [h2], q⟩
@[simp] theorem wp_mTup : Wp (mTup ms) e S Q ↔ Wp ms e S fun rs e1 S1 => ∃ ds, dsOf rs = some ds ∧ ds.length ≤ 1000 ∧ Q (.d (.tup ds)) e1 S1 := by simp [mTup, wp_dispOf]
@[simp] theorem wp_mLst : Wp (mLst ms) e S Q ↔ Wp ms e S fun rs e1 S1 => ∃ ds, dsOf rs = some ds ∧ ds.length ≤ 1000 ∧ Q (.new (.lst ds)) e1 S1 := by simp [mLst, wp_dispOf]
@[simp] theorem dsOf_nil : dsOf [] = some [] := rfl
@[simp] theorem dsOf_cons {x : D} {rs : List R} : dsOf (.d x :: rs) = (dsOf rs).map (x :: ·) := by
  simp only [dsOf]
  try (cases dsOf rs <;> rfl)
@[simp] theorem wp_mD : Wp (mD ma) e S Q ↔ Wp ma e S fun r e1 S1 => Wp (toD r) e1 S1 Q := by simp [mD]
@[simp] theorem wp_toD_d {x : D} : Wp (toD (.d x)) e S Q ↔ Q (.d x) e S := wp_some rfl
@[simp] theorem wp_toD_new {ds : List D} : Wp (toD (.new (.lst ds))) e S Q ↔ Q (.d (.lst ds)) e S := wp_some rfl
theorem wp_toD_loc {i : Nat} {ds : List D} (h : e[i]? = some (some (.own (.lst ds)))) : Wp (toD (.loc i)) e S Q ↔ Q (.d (.lst ds)) (e.set i (some (.d (.lst ds)))) S := wp_some (by unfold toD; simp [h, lock])
@[simp] theorem wp_mBox : Wp (mBox ma) e S Q ↔ Wp ma e S fun r e1 S1 => Wp (toBox r) e1 S1 Q := by simp [mBox]
@[simp] theorem wp_toBox {o : O} : Wp (toBox (.new o)) e S Q ↔ Q (.d (.ref S.length)) e (S ++ [o]) := wp_some rfl
/-! subscripts -/
@[simp] theorem wp_ix_tup {ds : List D} {i : Int} : Wp (gIx (.d (.tup ds)) (.d (.int i))) e S Q ↔ ∃ d, atD ds i = some d ∧ Q (.d d) e S := by
  unfold Wp gIx
  constructor
  · rintro ⟨a, e', S', h, q⟩; obtain ⟨d, h1, h2⟩ := Option.map_eq_some_iff.mp h; cases h2; exact ⟨d, h1, q⟩
  · rintro ⟨d, h, q⟩; exact ⟨_, _, _, Option.map_eq_some_iff.mpr ⟨d, h, rfl⟩, q⟩
theorem wp_ix_lst {r : R} {ds : List D} {i : Int} (h : look r e S = some (.lst ds)) (h1 : ∀ ds, r ≠ .d (.tup ds)) (h2 : ∀ s, r ≠ .d (.str s)) : Wp (gIx r (.d (.int i))) e S Q ↔ ∃ d, atD ds i = some d ∧ Q (.d d) e S := by
  have hq : gIx r (.d (.int i)) e S = (atD ds i).map fun d => (R.d d, e, S) := by
    cases r with
    | d x => cases x <;> first | exact (h1 _ rfl).elim | exact (h2 _ rfl).elim | (simp only [gIx, h]) | (simp [look] at h)
    | _ => simp only [gIx, h]
  unfold Wp
  rw [hq]
  constructor
  · rintro ⟨a, e', S', h, q⟩; obtain ⟨d, h1, h2⟩ := Option.map_eq_some_iff.mp h; cases h2; exact ⟨d, h1, q⟩
  · rintro ⟨d, h, q⟩; exact ⟨_, _, _, Option.map_eq_some_iff.mpr ⟨d, h, rfl⟩, q⟩
@[simp] theorem wp_ix_new {ds : List D} {i : Int} : Wp (gIx (.new (.lst ds)) (.d (.int i))) e S Q ↔ ∃ d, atD ds i = some d ∧ Q (.d d) e S := wp_ix_lst rfl (fun _ h => nomatch h) (fun _ h => nomatch h)
@[simp] theorem wp_ix_brw {ds : List D} {i : Int} : Wp (gIx (.brw (.lst ds)) (.d (.int i))) e S Q ↔ ∃ d, atD ds i = some d ∧ Q (.d d) e S := wp_ix_lst rfl (fun _ h => nomatch h) (fun _ h => nomatch h)
@[simp] theorem wp_ix_dl {ds : List D} {i : Int} : Wp (gIx (.d (.lst ds)) (.d (.int i))) e S Q ↔ ∃ d, atD ds i = some d ∧ Q (.d d) e S := wp_ix_lst rfl (fun _ h => nomatch h) (fun _ h => nomatch h)
theorem wp_ix_ref {n : Nat} {ds : List D} {i : Int} (h : S[n]? = some (.lst ds)) : Wp (gIx (.d (.ref n)) (.d (.int i))) e S Q ↔ ∃ d, atD ds i = some d ∧ Q (.d d) e S := wp_ix_lst h (fun _ h => nomatch h) (fun _ h => nomatch h)
theorem atD_ofNat {ds : List D} {n : Nat} : atD ds n = ds[n]? := by
  unfold atD atI ixN
  rw [if_pos (Int.natCast_nonneg n)]
  by_cases h : n < ds.length
  · rw [if_pos (Int.ofNat_lt.mpr h)]; rfl
  · rw [if_neg (fun z => h (Int.ofNat_lt.mp z)), List.getElem?_eq_none (by omega)]; rfl
@[simp] theorem atD_0 {ds : List D} : atD ds 0 = ds[0]? := atD_ofNat (n := 0)
@[simp] theorem atD_1 {ds : List D} : atD ds 1 = ds[1]? := atD_ofNat (n := 1)
@[simp] theorem atD_2 {ds : List D} : atD ds 2 = ds[2]? := atD_ofNat (n := 2)
@[simp] theorem atD_3 {ds : List D} : atD ds 3 = ds[3]? := atD_ofNat (n := 3)
@[simp] theorem atD_4 {ds : List D} : atD ds 4 = ds[4]? := atD_ofNat (n := 4)
theorem atD_last {ds : List D} {d : D} : atD (ds ++ [d]) (-1) = some d := by
  unfold atD atI ixN
  rw [if_neg (by decide), if_pos (by simp; omega)]
  show (ds ++ [d])[((-1 : Int) + ((ds ++ [d]).length : Nat)).toNat]? = some d
  have : ((-1 : Int) + ((ds ++ [d]).length : Nat)).toNat = ds.length := by simp; omega
  rw [this]; simp
/-! calls -/
@[simp] theorem wp_mCall {n : Nat} {f : Fn} : Wp (mCall n f ms) e S Q ↔ Wp ms e S fun rs e1 S1 => rs.length = n ∧ ∃ sls, toArgs rs e1 = some sls ∧ Fp f sls S1 fun r S2 => Q r.r e1 S2 := by
  simp only [mCall, wp_bnd]
  constructor
  · rintro ⟨rs, e1, S1, h, q⟩
    refine ⟨rs, e1, S1, h, ?_⟩
    by_cases hn : rs.length = n
    · rw [if_pos hn] at q
      obtain ⟨r, e2, S2, h2, q⟩ := q
      dsimp only at h2
      cases ha : toArgs rs e1 with
      | none => rw [ha] at h2; cases h2
      | some sls =>
        rw [ha] at h2
        obtain ⟨p, hp, he⟩ := Option.map_eq_some_iff.mp h2
        cases he
        exact ⟨hn, sls, rfl, p.1, p.2, hp, q⟩
    · rw [if_neg hn] at q
      exact (wp_stk.mp q).elim
  · rintro ⟨rs, e1, S1, h, hn, sls, ha, r, S2, hf, q⟩
    refine ⟨rs, e1, S1, h, ?_⟩
    dsimp only
    rw [if_pos hn]
    exact ⟨r.r, e1, S2, by simp only [ha, hf]; rfl, q⟩
@[simp] theorem toArgs_nil : toArgs [] e = some [] := rfl
@[simp] theorem toArgs_cons {r : R} {rs : List R} : toArgs (r :: rs) e = (toArg r e).bind fun s => (toArgs rs e).map (s :: ·) := by
  simp only [toArgs]
  cases toArg r e <;> cases toArgs rs e <;> rfl
@[simp] theorem toArg_d {x : D} : toArg (.d x) e = some (.d x) := rfl
@[simp] theorem toArg_new {x : O} : toArg (.new x) e = some (.brw x) := rfl
@[simp] theorem toArg_brw {x : O} : toArg (.brw x) e = some (.brw x) := rfl
theorem toArg_loc {i : Nat} {o : O} (h : e[i]? = some (some (.own o))) : toArg (.loc i) e = some (.brw o) := by unfold toArg; simp only [h]
@[simp] theorem r_d {x : D} : (Rt.d x).r = .d x := rfl
@[simp] theorem r_new {x : O} : (Rt.new x).r = .new x := rfl
def flQ (Q : Rt → Sto → Prop) : Fl → En → Sto → Prop
  | .rt r, _, S => Q r S
  | .nx, _, S => Q (.d .non) S
  | _, _, _ => False
@[simp] theorem flQ_rt {Q : Rt → Sto → Prop} {r : Rt} : flQ Q (.rt r) e S = Q r S := rfl
@[simp] theorem flQ_nx {Q : Rt → Sto → Prop} : flQ Q .nx e S = Q (.d .non) S := rfl
@[simp] theorem flQ_bk {Q : Rt → Sto → Prop} : flQ Q .bk e S = False := rfl
@[simp] theorem flQ_ct {Q : Rt → Sto → Prop} : flQ Q .ct e S = False := rfl
theorem fp_runF {nl : Nat} {b : M Fl} {sls : List Sl} {Q : Rt → Sto → Prop} : Fp (runF nl b) sls S Q ↔ Wp b (sls.map some ++ List.replicate nl none) S (flQ Q) := by
  unfold Fp Wp runF
  constructor
  · rintro ⟨r, S', h, q⟩
    split at h <;> cases h
    · exact ⟨.rt _, _, _, by assumption, q⟩
    · exact ⟨.nx, _, _, by assumption, q⟩
  · rintro ⟨fl, e', S', h, q⟩
    cases fl with
    | rt r => exact ⟨r, S', by rw [h], q⟩
    | nx => exact ⟨_, S', by rw [h], q⟩
    | bk => exact q.elim
    | ct => exact q.elim
/-! statements -/
variable {F : Fl → En → Sto → Prop} {a b : M Fl}
def seQ (b : M Fl) (F : Fl → En → Sto → Prop) : Fl → En → Sto → Prop
  | .nx, e, S => Wp b e S F
  | z, e, S => F z e S
@[simp] theorem seQ_nx : seQ b F .nx e S = Wp b e S F := rfl
@[simp] theorem seQ_rt {r : Rt} : seQ b F (.rt r) e S = F (.rt r) e S := rfl
@[simp] theorem seQ_bk : seQ b F .bk e S = F .bk e S := rfl
@[simp] theorem seQ_ct : seQ b F .ct e S = F .ct e S := rfl
@[simp] theorem wp_mSeq : Wp (mSeq a b) e S F ↔ Wp a e S (seQ b F) := by
  simp only [mSeq, wp_bnd]
  have h : (fun fl e1 S1 => Wp (match fl with | .nx => b | z => pur z) e1 S1 F) = seQ b F := by
    funext fl e1 S1
    cases fl <;> simp [seQ]
  exact iff_of_eq (congrArg (Wp a e S) h)
@[simp] theorem wp_mSkip : Wp mSkip e S F ↔ F .nx e S := wp_pur
@[simp] theorem wp_mIfS {c : M Bool} : Wp (mIfS c a b) e S F ↔ Wp c e S fun x e1 S1 => if x = true then Wp a e1 S1 F else Wp b e1 S1 F := by simp [mIfS, wp_ite]
@[simp] theorem wp_mDrop : Wp (mDrop ma) e S F ↔ Wp ma e S fun _ e1 S1 => F .nx e1 S1 := by simp [mDrop]
@[simp] theorem wp_mRet : Wp (mRet ma) e S F ↔ Wp ma e S fun r e1 S1 => Wp (toRt r) e1 S1 F := by simp [mRet]
@[simp] theorem wp_toRt_d {x : D} : Wp (toRt (.d x)) e S F ↔ F (.rt (.d x)) e S := wp_some rfl
@[simp] theorem wp_toRt_new {x : O} : Wp (toRt (.new x)) e S F ↔ F (.rt (.new x)) e S := wp_some rfl
theorem wp_toRt_loc {i : Nat} {o : O} (h : e[i]? = some (some (.own o))) : Wp (toRt (.loc i)) e S F ↔ F (.rt (.new o)) e S := wp_some (by unfold toRt; simp only [h])
@[simp] theorem wp_mRetN : Wp mRetN e S F ↔ F (.rt (.d .non)) e S := wp_pur
@[simp] theorem wp_mSet {i : Nat} : Wp (mSet i ma) e S F ↔ Wp ma e S fun r e1 S1 => Wp (setS i r) e1 S1 F := by simp [mSet]
theorem wp_setS {i : Nat} {r : R} {s : Sl} (h : toSl r = some s) (hi : i < e.length) : Wp (setS i r) e S F ↔ F .nx (e.set i (some s)) S := wp_some (by unfold setS; simp [h, hi])
@[simp] theorem wp_setS_d {i : Nat} {x : D} : Wp (setS i (.d x)) e S F ↔ i < e.length ∧ F .nx (e.set i (some (.d x))) S := by
  constructor
  · rintro ⟨a, e', S', h, q⟩; obtain ⟨s, h1, h2, h3⟩ := setS_eq h; cases h1; cases h3; exact ⟨h2, q⟩
  · rintro ⟨h, q⟩; exact (wp_setS rfl h).mpr q
@[simp] theorem wp_setS_new {i : Nat} {x : O} : Wp (setS i (.new x)) e S F ↔ i < e.length ∧ F .nx (e.set i (some (.own x))) S := by
  constructor
  · rintro ⟨a, e', S', h, q⟩; obtain ⟨s, h1, h2, h3⟩ := setS_eq h; cases h1; cases h3; exact ⟨h2, q⟩
  · rintro ⟨h, q⟩; exact (wp_setS rfl h).mpr q
@[simp] theorem wp_mSetI {mv mo mi : M R} : Wp (mSetI mv mo mi) e S F ↔ Wp mv e S fun v e1 S1 => ∃ x, v = .d x ∧ Wp mo e1 S1 fun o e2 S2 => Wp mi e2 S2 fun i e3 S3 => Wp (setIt o i x) e3 S3 F := by
  simp only [mSetI, wp_bnd]
  constructor
  · rintro ⟨v, e1, S1, h, q⟩
    refine ⟨v, e1, S1, h, ?_⟩
    split at q
    · exact ⟨_, rfl, by simpa using q⟩
    · exact (wp_stk.mp q).elim
  · rintro ⟨v, e1, S1, h, x, rfl, q⟩
    exact ⟨_, e1, S1, h, by simpa using q⟩
theorem wp_setIt {o : R} {ds : List D} {k : Int} {j : Nat} {x : D} (h : look o e S = some (.lst ds)) (hw : isW o = true) (hk : ixN ds.length k = some j) : Wp (setIt o (.d (.int k)) x) e S F ↔ F .nx (putE o (.lst (ds.set j x)) e) (putS o (.lst (ds.set j x)) S) :=
  wp_some (by unfold setIt; simp [h, hw, hk])
@[simp] theorem wp_mAsg {t : Tgt} : Wp (mAsg t ma) e S F ↔ Wp ma e S fun r e1 S1 => ∃ x, r = .d x ∧ ∃ e2, t x e1 = some e2 ∧ F .nx e2 S1 := by
  simp only [mAsg, wp_bnd]
  constructor
  · rintro ⟨v, e1, S1, h, q⟩
    refine ⟨v, e1, S1, h, ?_⟩
    obtain ⟨a, e2, S2, h2, q⟩ := q
    dsimp only at h2
    split at h2
    · obtain ⟨e3, h3, h4⟩ := Option.map_eq_some_iff.mp h2
      cases h4
      exact ⟨_, rfl, _, h3, q⟩
    · cases h2
  · rintro ⟨v, e1, S1, h, x, rfl, e2, ht, q⟩
    exact ⟨_, e1, S1, h, .nx, e2, S1, by simp [ht], q⟩
@[simp] theorem wp_mPar2 {i j : Nat} : Wp (mPar2 i j ma mb) e S F ↔ Wp ma e S fun x e1 S1 => Wp mb e1 S1 fun y e2 S2 => Wp (setS i x) e2 S2 (seQ (setS j y) F) := by simp [mPar2]
@[simp] theorem wp_mPar3 {i j l : Nat} : Wp (mPar3 i j l ma mb mc) e S F ↔ Wp ma e S fun x e1 S1 => Wp mb e1 S1 fun y e2 S2 => Wp mc e2 S2 fun z e3 S3 => Wp (setS i x) e3 S3 (seQ (mSeq (setS j y) (setS l z)) F) := by simp [mPar3]
@[simp] theorem gt_name {i : Nat} {d : D} {e1 : En} : gtName i d e = some e1 ↔ i < e.length ∧ e.set i (some (.d d)) = e1 := by unfold gtName; split <;> simp [*]
@[simp] theorem gt_nil {e1 : En} : gtNil [] e = some e1 ↔ e = e1 := by simp [gtNil]
theorem gt_cons {t : Tgt} {ts : Tgts} {d : D} {ds : List D} {e2 : En} : gtCons t ts (d :: ds) e = some e2 ↔ ∃ e1, t d e = some e1 ∧ ts ds e1 = some e2 := by
  simp only [gtCons]
  cases h : t d e <;> simp
theorem gt_tup {n : Nat} {ts : Tgts} {ds : List D} {e1 : En} : gtTup n ts (.tup ds) e = some e1 ↔ ds.length = n ∧ ts ds e = some e1 := by
  simp only [gtTup]
  split <;> simp [*]
end
end G

set_option Elab.async false
set_option linter.all false
set_option maxRecDepth 1000000
set_option maxHeartbeats 2000000
/-! G14: what a mirror comes to: loops, built-ins, methods. -/
namespace G
variable [Wld]
open PySem PySem.Spec PyProof.Rows L2
theorem option_map_wp {α β : Type} {o : Option β} {k : β → α} {e : En} {S : Sto} {Q : α → En → Sto → Prop} : (∃ a e' S', (o.map fun d => (k d, e, S)) = some (a, e', S') ∧ Q a e' S') ↔ ∃ d, o = some d ∧ Q (k d) e S := by
  constructor
  · rintro ⟨a, e', S', h, q⟩; obtain ⟨d, h1, h2⟩ := Option.map_eq_some_iff.mp h; cases h2; exact ⟨d, h1, q⟩
  · rintro ⟨d, h, q⟩; exact ⟨_, _, _, Option.map_eq_some_iff.mpr ⟨d, h, rfl⟩, q⟩
section
variable {e : En} {S : Sto} {Q : R → En → Sto → Prop} {F : Fl → En → Sto → Prop} {ma mb : M R} {ms : M (List R)}
def varQ (o : Option (Option Sl)) (i : Nat) (e : En) (S : Sto) (Q : R → En → Sto → Prop) : Prop := match o with
  | some (some (.d x)) => Q (.d x) e S
  | some (some (.own _)) => Q (.loc i) e S
  | some (some (.brw o)) => Q (.brw o) e S
  | some (some (.lm i cs)) => Q (.lm i cs) e S
  | _ => False
theorem wp_mVarC {i : Nat} {a : Option Sl} : Wp (mVar i) (a :: e) S Q ↔ varQ (a :: e)[i]? i (a :: e) S Q := wp_mVar
theorem varQ_d {i : Nat} {x : D} : varQ (some (some (.d x))) i e S Q = Q (.d x) e S := rfl
theorem varQ_own {i : Nat} {x : O} : varQ (some (some (.own x))) i e S Q = Q (.loc i) e S := rfl
theorem varQ_brw {i : Nat} {x : O} : varQ (some (some (.brw x))) i e S Q = Q (.brw x) e S := rfl
/-! what is walked -/
@[simp] theorem wp_mSrc {q : Src → En → Sto → Prop} : Wp (mSrc ma) e S q ↔ Wp ma e S fun r e1 S1 => Wp (srcOf r) e1 S1 q := by simp [mSrc]
@[simp] theorem wp_src_tup {ds : List D} {q : Src → En → Sto → Prop} : Wp (srcOf (.d (.tup ds))) e S q ↔ q ⟨ds, []⟩ e S := wp_some rfl
@[simp] theorem wp_src_lst {ds : List D} {q : Src → En → Sto → Prop} : Wp (srcOf (.d (.lst ds))) e S q ↔ q ⟨ds, []⟩ e S := wp_some rfl
@[simp] theorem wp_src_new {ds : List D} {q : Src → En → Sto → Prop} : Wp (srcOf (.new (.lst ds))) e S q ↔ q ⟨ds, []⟩ e S := wp_some rfl
@[simp] theorem wp_src_brw {ds : List D} {q : Src → En → Sto → Prop} : Wp (srcOf (.brw (.lst ds))) e S q ↔ q ⟨ds, []⟩ e S := wp_some rfl
theorem wp_src_loc {i : Nat} {ds : List D} {q : Src → En → Sto → Prop} (h : e[i]? = some (some (.own (.lst ds)))) : Wp (srcOf (.loc i)) e S q ↔ q ⟨ds, [(.loc i, ds)]⟩ e S := wp_some (by simp [srcOf, look, h])
@[simp] theorem wp_srcR1 {j : Int} {q : Src → En → Sto → Prop} : Wp (srcR1 [.d (.int j)]) e S q ↔ (-(2 ^ 62) ≤ j ∧ j ≤ 1000000) ∧ q ⟨rngD 0 j.toNat, []⟩ e S := by
  unfold Wp srcR1
  by_cases h : -(2 ^ 62) ≤ j ∧ j ≤ 1000000
  · simp only [if_pos h]; exact ⟨fun ⟨_, _, _, h1, q⟩ => by cases h1; exact ⟨h, q⟩, fun q => ⟨_, _, _, rfl, q.2⟩⟩
  · simp only [if_neg h]; exact ⟨fun ⟨_, _, _, h1, q⟩ => (nomatch h1), fun q => (h q.1).elim⟩
@[simp] theorem wp_srcStr {x : Str} {q : Src → En → Sto → Prop} : Wp (srcStr (.d (.str x))) e S q ↔ x.cps.size ≤ 1000000 ∧ q ⟨x.cps.toList.map fun c => .str ⟨#[c]⟩, []⟩ e S := by
  constructor
  · rintro ⟨_, _, _, h, k⟩
    obtain ⟨y, h1, h2, h3⟩ := srcStr_eq h
    cases h1; cases h3
    exact ⟨h2, k⟩
  · rintro ⟨h, k⟩
    exact ⟨_, _, _, by unfold srcStr; simp [h], k⟩
/-! for -/
@[simp] theorem wp_mFor {t : Tgt} {mi : M Src} {b : M Fl} : Wp (mFor t mi b) e S F ↔ Wp mi e S fun src e1 S1 => (src.ws.all fun p => isRef p.1) = true ∧ Wp (forL t b src.ws src.items) e1 S1 F := by
  simp only [mFor, wp_bnd, wp_ite, wp_stk]
  have h : ∀ src : Src, ∀ p : Prop, (if (src.ws.all fun p => isRef p.1) = true then p else False) ↔ ((src.ws.all fun p => isRef p.1) = true ∧ p) := fun src p => by split <;> simp [*]
  constructor
  · exact fun w => w.mono fun a e S q => (h _ _).mp q
  · exact fun w => w.mono fun a e S q => (h _ _).mpr q
def lpQ (I : En → Sto → Prop) (F : Fl → En → Sto → Prop) : Fl → En → Sto → Prop
  | .nx, e, S => I e S
  | .ct, e, S => I e S
  | .bk, e, S => F .nx e S
  | .rt r, e, S => F (.rt r) e S
@[simp] theorem lpQ_nx {I : En → Sto → Prop} : lpQ I F .nx e S = I e S := rfl
@[simp] theorem lpQ_ct {I : En → Sto → Prop} : lpQ I F .ct e S = I e S := rfl
@[simp] theorem lpQ_bk {I : En → Sto → Prop} : lpQ I F .bk e S = F .nx e S := rfl
@[simp] theorem lpQ_rt {I : En → Sto → Prop} {r : Rt} : lpQ I F (.rt r) e S = F (.rt r) e S := rfl
theorem wp_forL {t : Tgt} {b : M Fl} (I : List D → En → Sto → Prop) {ds : List D} (h0 : I ds e S)
    (hs : ∀ d ds e S, I (d :: ds) e S → ∃ e1, t d e = some e1 ∧ Wp b e1 S (lpQ (I ds) F)) (hd : ∀ e S, I [] e S → F .nx e S) : Wp (forL t b [] ds) e S F := by
  induction ds generalizing e S with
  | nil => exact ⟨_, _, _, by unfold forL; rw [if_pos (wat_nil _ _)], hd _ _ h0⟩
  | cons d ds ih =>
    obtain ⟨e1, h1, fl, e2, S2, h2, q⟩ := hs d ds e S h0
    cases fl with
    | nx =>
      obtain ⟨a, e3, S3, h3, q⟩ := ih q
      exact ⟨a, e3, S3, by rw [forL]; simp only [wat_nil, h1, h2, if_true]; exact h3, q⟩
    | ct =>
      obtain ⟨a, e3, S3, h3, q⟩ := ih q
      exact ⟨a, e3, S3, by rw [forL]; simp only [wat_nil, h1, h2, if_true]; exact h3, q⟩
    | bk => exact ⟨.nx, e2, S2, by rw [forL]; simp only [wat_nil, h1, h2, if_true], q⟩
    | rt r => exact ⟨.rt r, e2, S2, by rw [forL]; simp only [wat_nil, h1, h2, if_true], q⟩
/-- the items that were, too -/
theorem wp_forL' {t : Tgt} {b : M Fl} {all : List D} (I : List D → List D → En → Sto → Prop) (h0 : I [] all e S)
    (hs : ∀ pre d post e S, all = pre ++ d :: post → I pre (d :: post) e S → ∃ e1, t d e = some e1 ∧ Wp b e1 S (lpQ (I (pre ++ [d]) post) F)) (hd : ∀ e S, I all [] e S → F .nx e S) : Wp (forL t b [] all) e S F := by
  refine wp_forL (fun ds e S => ∃ pre, all = pre ++ ds ∧ I pre ds e S) ⟨[], rfl, h0⟩ ?_ ?_
  · rintro d ds e S ⟨pre, hp, hi⟩
    obtain ⟨e1, h1, q⟩ := hs pre d ds e S hp hi
    refine ⟨e1, h1, q.mono fun fl e2 S2 k => ?_⟩
    cases fl with
    | nx => exact ⟨pre ++ [d], by simp [hp], k⟩
    | ct => exact ⟨pre ++ [d], by simp [hp], k⟩
    | bk => exact k
    | rt r => exact k
  · rintro e S ⟨pre, hp, hi⟩
    have : all = pre := by simpa using hp
    subst this
    exact hd e S hi
/-! while -/
/-! comprehensions -/
@[simp] theorem wp_mLc {vs : List Nat} {t : Tgt} {mi : M Src} {c : M Bool} {elt : M R} : Wp (mLc vs t mi c elt) e S Q ↔ Wp mi e S fun src e1 S1 => Wp (compL vs t c elt src.ws src.items) (wipeE e1 vs) S1 fun ys e2 S2 => Q (.new (.lst ys)) e2 S2 := by
  simp only [mLc, wp_bnd, wp_pur]
  rfl
@[simp] theorem wipeE_nil {e : En} : wipeE e [] = e := rfl
@[simp] theorem wipeE_cons {e : En} {v : Nat} {vs : List Nat} : wipeE e (v :: vs) = (wipeE e vs).set v none := rfl
theorem wp_compL {vs : List Nat} {t : Tgt} {c : M Bool} {elt : M R} {ws : List (R × List D)} {all : List D} {q : List D → En → Sto → Prop} (J : List D → List D → List D → Sto → Prop) (hw : ∀ S, wat ws e S = true) (h0 : J [] all [] S)
    (hs : ∀ pre d post acc S, all = pre ++ d :: post → J pre (d :: post) acc S → ∃ e1, t d e = some e1 ∧ Wp c e1 S fun b e2 S2 => if b = true then Wp elt e2 S2 fun r e3 S3 => ∃ y, r = .d y ∧ wipeE e3 vs = e ∧ J (pre ++ [d]) post (acc ++ [y]) S3 else wipeE e2 vs = e ∧ J (pre ++ [d]) post acc S2)
    (hd : ∀ acc S, J all [] acc S → q acc e S) : Wp (compL vs t c elt ws all) e S q := by
  suffices h : ∀ (post pre acc : List D) (S : Sto), all = pre ++ post → J pre post acc S → Wp (compL vs t c elt ws post) e S fun ys e2 S2 => q (acc ++ ys) e2 S2 by simpa using h all [] [] S rfl h0
  intro post
  induction post with
  | nil =>
    intro pre acc S hp hj
    have : all = pre := by simpa using hp
    subst this
    exact ⟨[], e, S, by rw [compL]; simp only [hw, if_true], by simpa using hd acc S hj⟩
  | cons d post ih =>
    intro pre acc S hp hj
    obtain ⟨e1, h1, b, e2, S2, h2, q2⟩ := hs pre d post acc S hp hj
    cases b with
    | false =>
      obtain ⟨hz, hj⟩ := q2
      obtain ⟨ys, e4, S4, h4, q4⟩ := ih (pre ++ [d]) acc S2 (by simp [hp]) hj
      exact ⟨ys, e4, S4, by rw [compL]; simp only [hw, h1, h2, hz, if_true]; exact h4, q4⟩
    | true =>
      rw [if_pos rfl] at q2
      obtain ⟨r, e3, S3, h3, y, rfl, hz, hj⟩ := q2
      obtain ⟨ys, e4, S4, h4, q4⟩ := ih (pre ++ [d]) (acc ++ [y]) S3 (by simp [hp]) hj
      exact ⟨y :: ys, e4, S4, by rw [compL]; simp only [hw, h1, h2, h3, hz, if_true, h4], by simpa using q4⟩
/-- nothing but the walk -/
theorem wp_compL_fm {vs : List Nat} {t : Tgt} {c : M Bool} {elt : M R} {ws : List (R × List D)} {all : List D} {q : List D → En → Sto → Prop} (p : D → Bool) (f : D → D) (hw : ∀ S, wat ws e S = true)
    (hs : ∀ d ∈ all, ∃ e1, t d e = some e1 ∧ Wp c e1 S fun b e2 S2 => b = p d ∧ if p d = true then Wp elt e2 S2 fun r e3 S3 => r = .d (f d) ∧ wipeE e3 vs = e ∧ S3 = S else wipeE e2 vs = e ∧ S2 = S)
    (hd : q ((all.filter p).map f) e S) : Wp (compL vs t c elt ws all) e S q := by
  refine wp_compL (fun pre post acc S' => S' = S ∧ acc = (pre.filter p).map f) hw ⟨rfl, rfl⟩ ?_ ?_
  · rintro pre d post acc S' hp ⟨rfl, rfl⟩
    obtain ⟨e1, h1, h⟩ := hs d (by simp [hp])
    refine ⟨e1, h1, h.mono ?_⟩
    rintro b e2 S2 ⟨rfl, h⟩
    cases hpd : p d with
    | true =>
      rw [hpd, if_pos rfl] at h
      rw [if_pos rfl]
      refine h.mono ?_
      rintro r e3 S3 ⟨rfl, hz, rfl⟩
      exact ⟨_, rfl, hz, rfl, by simp [hpd]⟩
    | false =>
      rw [hpd, if_neg (by decide)] at h
      rw [if_neg (by decide)]
      exact ⟨h.1, h.2, by simp [hpd]⟩
  · rintro acc S' ⟨rfl, rfl⟩
    exact hd
/-! built-ins -/
@[simp] theorem g1_one {g : R → M R} {r : R} : g1 g [r] = g r := rfl
theorem wp_map {α : Type} {o : Option α} {k : α → R} {m : M R} (h : m e S = o.map fun d => (k d, e, S)) : Wp m e S Q ↔ ∃ d, o = some d ∧ Q (k d) e S := by
  unfold Wp; rw [h]; exact option_map_wp
@[simp] theorem seqOf_tup {ds : List D} : seqOf (.d (.tup ds)) e S = some ds := rfl
@[simp] theorem seqOf_lst {ds : List D} : seqOf (.d (.lst ds)) e S = some ds := rfl
@[simp] theorem seqOf_new {ds : List D} : seqOf (.new (.lst ds)) e S = some ds := rfl
@[simp] theorem seqOf_brw {ds : List D} : seqOf (.brw (.lst ds)) e S = some ds := rfl
theorem look_loc {i : Nat} {o : O} (h : e[i]? = some (some (.own o))) : look (.loc i) e S = some o := by simp [look, h]
theorem wp_len {r : R} {ds : List D} (h : seqOf r e S = some ds) : Wp (gLen r) e S Q ↔ Q (.d (.int ds.length)) e S := by
  refine (wp_map (o := seqOf r e S) (k := fun ds => .d (.int (ds.length : Nat))) ?_).trans ?_
  · cases r with
    | d x => cases x <;> first | rfl | (simp [seqOf, look] at h)
    | _ => rfl
  · simp [h]
@[simp] theorem wp_len_str {x : Str} : Wp (gLen (.d (.str x))) e S Q ↔ x.length ≤ 1000000 ∧ Q (.d (.int x.length)) e S := by
  unfold Wp gLen
  by_cases h : x.length ≤ 1000000
  · simp only [if_pos h]; exact ⟨fun ⟨_, _, _, h1, q⟩ => by cases h1; exact ⟨h, q⟩, fun q => ⟨_, _, _, rfl, q.2⟩⟩
  · simp only [if_neg h]; exact ⟨fun ⟨_, _, _, h1, q⟩ => (nomatch h1), fun q => (h q.1).elim⟩
theorem wp_len_tup {ds : List D} : Wp (gLen (.d (.tup ds))) e S Q ↔ Q (.d (.int ds.length)) e S := wp_len rfl
theorem wp_len_lst {ds : List D} : Wp (gLen (.d (.lst ds))) e S Q ↔ Q (.d (.int ds.length)) e S := wp_len rfl
theorem wp_len_new {ds : List D} : Wp (gLen (.new (.lst ds))) e S Q ↔ Q (.d (.int ds.length)) e S := wp_len rfl
theorem wp_len_brw {ds : List D} : Wp (gLen (.brw (.lst ds))) e S Q ↔ Q (.d (.int ds.length)) e S := wp_len rfl
theorem wp_tuple {r : R} : Wp (gTuple r) e S Q ↔ ∃ ds, seqOf r e S = some ds ∧ Q (.d (.tup ds)) e S := wp_map (k := fun ds => .d (.tup ds)) rfl
theorem wp_list {r : R} : Wp (gList r) e S Q ↔ ∃ ds, seqOf r e S = some ds ∧ Q (.new (.lst ds)) e S := wp_map (k := fun ds => .new (.lst ds)) rfl
@[simp] theorem wp_int_int {i : Int} : Wp (gInt (.d (.int i))) e S Q ↔ Q (.d (.int i)) e S := wp_some rfl
@[simp] theorem wp_int_bl {b : Bool} : Wp (gInt (.d (.bl b))) e S Q ↔ Q (.d (.int (if b then 1 else 0))) e S := wp_some rfl
@[simp] theorem wp_neg {i : Int} : Wp (gNeg (.d (.int i))) e S Q ↔ Q (.d (.int (-i))) e S := wp_pur
theorem wp_bls {f : List Bool → Bool} {r : R} {ds : List D} {bs : List Bool} (h : lstOf r e S = some ds) (hb : blsOf ds = some bs) : Wp (gBls f r) e S Q ↔ Q (.d (.bl (f bs))) e S := wp_some (by simp [gBls, h, hb])
theorem wp_dict {r : R} {ds : List D} {kvs : List (Key × D)} (h : lstOf r e S = some ds) (hk : prsOf ds = some kvs) : Wp (gDict r) e S Q ↔ Q (.new (.dct (mergeD [] kvs))) e S := wp_some (by simp [gDict, h, hk])
theorem wp_sortedK {r : R} {kvs : List (Key × D)} {ks : List Str} (h : look r e S = some (.dct kvs)) (hk : keysS kvs = some ks) (hl : ks.length < 64) : Wp (gSortedK r) e S Q ↔ Q (.new (.lst ((srtS ks).map D.str))) e S := wp_some (by simp [gSortedK, h, hk, hl])
/-! operators -/
@[simp] theorem wp_add_int {i j : Int} : Wp (gAdd (.d (.int i)) (.d (.int j))) e S Q ↔ Q (.d (.int (i + j))) e S := wp_some rfl
@[simp] theorem wp_add_str {x y : Str} : Wp (gAdd (.d (.str x)) (.d (.str y))) e S Q ↔ x.length + y.length ≤ 1000000 ∧ Q (.d (.str (x ++ y))) e S := by
  unfold Wp gAdd
  by_cases h : x.length + y.length ≤ 1000000
  · simp only [if_pos h]; exact ⟨fun ⟨_, _, _, h1, q⟩ => by cases h1; exact ⟨h, q⟩, fun q => ⟨_, _, _, rfl, q.2⟩⟩
  · simp only [if_neg h]; exact ⟨fun ⟨_, _, _, h1, q⟩ => (nomatch h1), fun q => (h q.1).elim⟩
theorem deq_flat {n : Nat} {x y : D} (fx : flat x = true) : deq n x y = some (eqS x y) := deq_unlike (by cases x <;> first | (cases y <;> rfl) | cases fx)
theorem datB_flat {x : D} (fx : flat x = true) : datB x = true := by cases x <;> first | rfl | cases fx
theorem isDic_flat {x : D} (fx : flat x = true) : isDic x = false := by cases x <;> first | rfl | cases fx
theorem dat_d {x : D} (h : datB x = true) : dat (.d x) e S = some x := by cases x <;> first | rfl | cases h
/-- x == y, in general -/
theorem wp_eqG {neg : Bool} {rx ry : R} : Wp (gEq neg rx ry) e S Q ↔ ∃ x, dat rx e S = some x ∧ ∃ y, dat ry e S = some y ∧ datB x = true ∧ datB y = true ∧ neOk neg x y = true ∧ ∃ b, deq 60 x y = some b ∧ Q (.d (.bl (b != neg))) e S := by
  constructor
  · rintro ⟨a, e', S', h, q⟩
    unfold gEq at h
    split at h
    · rename_i x y h1 h2
      split at h
      · rename_i hc
        simp only [Bool.and_eq_true] at hc
        obtain ⟨b, hb, hz⟩ := Option.map_eq_some_iff.mp h
        cases hz
        exact ⟨x, h1, y, h2, hc.1.1, hc.1.2, hc.2, b, hb, q⟩
      · cases h
    · cases h
  · rintro ⟨x, h1, y, h2, h3, h4, h5, b, hb, q⟩
    exact ⟨_, _, _, by unfold gEq; simp only [h1, h2, h3, h4, h5, hb]; rfl, q⟩
theorem wp_eq {neg : Bool} {x y : D} (fx : flat x = true) (fy : flat y = true) : Wp (gEq neg (.d x) (.d y)) e S Q ↔ Q (.d (.bl (eqS x y != neg))) e S := by
  refine wp_some ?_
  unfold gEq
  rw [dat_d (datB_flat fx), dat_d (datB_flat fy)]
  simp [datB_flat fx, datB_flat fy, neOk, isDic_flat fx, isDic_flat fy, deq_flat fx]
@[simp] theorem wp_eq_int {neg : Bool} {x y : Int} : Wp (gEq neg (.d (.int x)) (.d (.int y))) e S Q ↔ Q (.d (.bl ((x == y) != neg))) e S := wp_eq rfl rfl
@[simp] theorem wp_eq_str {neg : Bool} {x y : Str} : Wp (gEq neg (.d (.str x)) (.d (.str y))) e S Q ↔ Q (.d (.bl ((x == y) != neg))) e S := wp_eq rfl rfl
@[simp] theorem wp_eq_bl {neg : Bool} {x y : Bool} : Wp (gEq neg (.d (.bl x)) (.d (.bl y))) e S Q ↔ Q (.d (.bl ((x == y) != neg))) e S := wp_eq rfl rfl
def inD (x : D) (ds : List D) : Bool := ds.any fun y => eqS y x
theorem inF_flat {x : D} : ∀ {ds : List D}, ds.all flat = true → inF x ds = some (inD x ds)
  | [], _ => rfl
  | d :: ds, h => by
    rw [List.all_cons, Bool.and_eq_true] at h
    unfold inF
    rw [deq_flat h.1, inF_flat h.2]
    rfl
/-- x in r, in general -/
theorem wp_inG {neg : Bool} {x : D} {r : R} (hr : ∀ z, r ≠ .d (.str z)) : Wp (gIn neg (.d x) r) e S Q ↔ ∃ ds, seqOf r e S = some ds ∧ datB x = true ∧ datsB ds = true ∧ ∃ b, inF x ds = some b ∧ Q (.d (.bl (b != neg))) e S := by
  have : gIn neg (.d x) r e S = (match seqOf r e S with
    | some ds => if datB x && datsB ds then (inF x ds).map fun b => (R.d (.bl (b != neg)), e, S) else none
    | none => none) := by
    unfold gIn
    split
    · rename_i z _ _ ; exact (hr _ rfl).elim
    · rename_i h1 _; cases h1; rfl
    · rename_i h2 h3; first | exact (h2 _ rfl).elim | exact (h3 _ rfl).elim | exact (h2 _ _ rfl rfl).elim | exact (h3 _ _ rfl rfl).elim
  unfold Wp
  rw [this]
  constructor
  · rintro ⟨z, e', S', h, q⟩
    split at h
    · split at h
      · rename_i hf
        rw [Bool.and_eq_true] at hf
        obtain ⟨b, hb, hz⟩ := Option.map_eq_some_iff.mp h
        cases hz
        exact ⟨_, by assumption, hf.1, hf.2, b, hb, q⟩
      · cases h
    · cases h
  · rintro ⟨ds, h1, h2, h3, b, hb, q⟩
    exact ⟨_, _, _, by rw [h1]; simp [h2, h3, hb], q⟩
@[simp] theorem dSub_int {i j : Int} : dSub (.int i) (.int j) = some (.int (i - j)) := rfl
theorem dMod_int {i j : Int} (h : 0 < j) : dMod (.int i) (.int j) = some (.int (i % j)) := if_pos h
theorem dDiv_int {i j : Int} (h : 0 < j ∧ j < 1073741824) : dDiv (.int i) (.int j) = some (.int (i / j)) := if_pos h
@[simp] theorem dLt_int {i j : Int} : dLt (.int i) (.int j) = some (.bl (decide (i < j))) := rfl
@[simp] theorem dLe_int {i j : Int} : dLe (.int i) (.int j) = some (.bl (decide (i ≤ j))) := rfl
theorem dPow_int {i j : Int} (h : 0 ≤ j ∧ j ≤ 1000 ∧ i.natAbs < 1000) : dPow (.int i) (.int j) = some (.int (i ^ j.toNat)) := if_pos h
theorem dMul_int {i j : Int} (h : (small i || small j) = true) : dMul (.int i) (.int j) = some (.int (i * j)) := if_pos h
/-! methods -/
@[simp] theorem wp_mMth {T : String} {g : R → List R → M R} : Wp (mMth T g ma ms) e S Q ↔ Wp ma e S fun r e1 S1 => isTy T r e1 S1 = true ∧ Wp ms e1 S1 fun rs e2 S2 => Wp (g r rs) e2 S2 Q := by
  simp only [mMth, wp_bnd]
  constructor
  · exact fun w => w.mono fun r e1 S1 ⟨x, e2, S2, h, q⟩ => by
      obtain ⟨h1, h2⟩ := chk_eq h
      cases h2
      exact ⟨h1, q⟩
  · exact fun w => w.mono fun r e1 S1 ⟨h, q⟩ => ⟨r, e1, S1, by unfold chk; rw [if_pos h], q⟩
@[simp] theorem isTy_str {x : Str} : isTy "str" (.d (.str x)) e S = true := rfl
theorem isTy_list {r : R} {ds : List D} (h : look r e S = some (.lst ds)) : isTy "list" r e S = true := by
  unfold isTy
  rw [if_neg (by decide), if_pos rfl, h]
theorem wp_wrL {r : R} {f : List D → Option (R × List D)} {ds es : List D} {x : R} (h : look r e S = some (.lst ds)) (hw : isW r = true) (hf : f ds = some (x, es)) : Wp (wrL r f) e S Q ↔ Q x (putE r (.lst es) e) (putS r (.lst es) S) := wp_some (by unfold wrL; simp [h, hw, hf])
theorem wp_append {r : R} {ds : List D} {x : D} (h : look r e S = some (.lst ds)) (hw : isW r = true) (hl : ds.length < 1000000) : Wp (gAppend r [.d x]) e S Q ↔ Q (.d .non) (putE r (.lst (ds ++ [x])) e) (putS r (.lst (ds ++ [x])) S) := wp_wrL h hw (by simp [hl])
theorem wp_index {r : R} {ds : List D} {x : D} {j : Nat} (h : lstOf r e S = some ds) (fx : flat x = true) (fs : ds.all flat = true) (hj : idxD x ds = some j) : Wp (gIndex r [.d x]) e S Q ↔ Q (.d (.int j)) e S := wp_some (by unfold gIndex; simp only [h, Option.bind_some, fx, fs, hj]; rfl)
theorem wp_join {a : Str} {r : R} {ds : List D} {ys : List Str} (h : seqOf r e S = some ds) (hs : strsOf ds = some ys) (hl : (ys.map (·.length)).sum + ys.length * a.length ≤ 16777216) : Wp (gJoin (.d (.str a)) [r]) e S Q ↔ Q (.d (.str (Txt.join a ys))) e S := wp_some (by unfold gJoin; simp only [h, hs, Option.bind_some, if_pos hl])
@[simp] theorem putE_loc {i : Nat} {o : O} : putE (.loc i) o e = e.set i (some (.own o)) := rfl
@[simp] theorem putE_ref {n : Nat} {o : O} : putE (.d (.ref n)) o e = e := rfl
@[simp] theorem putS_loc {i : Nat} {o : O} : putS (.loc i) o S = S := rfl
@[simp] theorem putS_ref {n : Nat} {o : O} : putS (.d (.ref n)) o S = S.set n o := rfl
@[simp] theorem isW_loc {i : Nat} : isW (.loc i) = true := rfl
@[simp] theorem isW_ref {i : Nat} : isW (.d (.ref i)) = true := rfl
@[simp] theorem look_new {o : O} : look (.new o) e S = some o := rfl
@[simp] theorem look_brw {o : O} : look (.brw o) e S = some o := rfl
@[simp] theorem look_dl {ds : List D} : look (.d (.lst ds)) e S = some (.lst ds) := rfl
@[simp] theorem look_ref {n : Nat} : look (.d (.ref n)) e S = S[n]? := rfl
theorem lstOf_of {r : R} {ds : List D} (h : look r e S = some (.lst ds)) : lstOf r e S = some ds := by unfold lstOf; rw [h]
/-! slices -/
@[simp] theorem wp_mSl {l h : M (Option Int)} : Wp (mSl ma l h) e S Q ↔ Wp ma e S fun x e1 S1 => Wp l e1 S1 fun lo e2 S2 => Wp h e2 S2 fun hi e3 S3 => Wp (gSl x lo hi) e3 S3 Q := by simp [mSl]
@[simp] theorem wp_asI {i : Int} {q : Option Int → En → Sto → Prop} : Wp (asI (.d (.int i))) e S q ↔ q (some i) e S := wp_pur
@[simp] theorem wp_sl_tup {ds : List D} {lo hi : Option Int} : Wp (gSl (.d (.tup ds)) lo hi) e S Q ↔ Q (.d (.tup (cutD ds lo hi))) e S := wp_some rfl
theorem wp_sl_lst {r : R} {ds : List D} {lo hi : Option Int} (h : look r e S = some (.lst ds)) : Wp (gSl r lo hi) e S Q ↔ Q (.new (.lst (cutD ds lo hi))) e S := by
  refine wp_some ?_
  have : gSl r lo hi e S = (match look r e S with
    | some (.lst ds) => some (R.new (.lst (cutD ds lo hi)), e, S)
    | _ => none) := by
    cases r with
    | d x => cases x <;> first | (simp [look] at h; done) | rfl
    | _ => rfl
  rw [this, h]
@[simp] theorem wp_mStar {i j : Nat} : Wp (mStar i j ma) e S F ↔ Wp ma e S fun r e1 S1 => ∃ d ds, r = .d (.tup (d :: ds)) ∧ i < e1.length ∧ j < e1.length ∧ F .nx ((e1.set i (some (.d d))).set j (some (.own (.lst ds)))) S1 := by
  simp only [mStar, wp_bnd]
  constructor
  · exact fun w => w.mono fun r e1 S1 ⟨fl, e2, S2, h, q⟩ => by
      obtain ⟨d, ds, rfl, h1, h2, h3⟩ := starE_eq h
      cases h3
      exact ⟨d, ds, rfl, h1, h2, q⟩
  · exact fun w => w.mono fun r e1 S1 ⟨d, ds, h, h1, h2, q⟩ => by
      subst h
      exact ⟨_, _, _, by unfold starE; simp [h1, h2], q⟩
theorem wp_mIsi {c : Cl} : Wp (mIsi c ma) e S Q ↔ Wp ma e S fun r e1 S1 => ∃ k, kd r e1 S1 = some k ∧ Q (.d (.bl (isK k c))) e1 S1 := by
  simp only [mIsi, wp_bnd]
  constructor
  · exact fun w => w.mono fun r e1 S1 q => option_map_wp.mp q
  · exact fun w => w.mono fun r e1 S1 q => option_map_wp.mpr q
end
end G

set_option Elab.async false
set_option linter.all false
set_option maxRecDepth 1000000
set_option maxHeartbeats 2000000
/-! G15: what a mirror comes to: by what objects hold. -/
namespace G
variable [Wld]
open PySem PySem.Spec PyProof.Rows L2
def ownQ : Option (Option Sl) → Option O
  | some (some (.own o)) => some o
  | _ => none
theorem ownQ_own {o : O} : ownQ (some (some (.own o))) = some o := rfl
def seqL : Option O → Option (List D)
  | some (.lst ds) => some ds
  | _ => none
theorem seqL_lst {ds : List D} : seqL (some (.lst ds)) = some ds := rfl
def isL : Option O → Bool
  | some (.lst _) => true
  | _ => false
theorem isL_lst {ds : List D} : isL (some (.lst ds)) = true := rfl
def ixO : Option O → D → Option D
  | some (.lst ds), .int i => atD ds i
  | some (.dct kvs), y => (keyOf y).bind (valD kvs)
  | _, _ => none
theorem ixO_lst {ds : List D} {i : Int} : ixO (some (.lst ds)) (.int i) = atD ds i := rfl
theorem ixO_dct_int {kvs : List (Key × D)} {i : Int} : ixO (some (.dct kvs)) (.int i) = valD kvs (.inl i) := rfl
theorem ixO_dct_str {kvs : List (Key × D)} {x : Str} : ixO (some (.dct kvs)) (.str x) = valD kvs (.inr x) := rfl
theorem lock_lst {ds : List D} : lock (.lst ds) = some (.lst ds) := rfl
section
variable {e : En} {S : Sto} {Q : R → En → Sto → Prop} {F : Fl → En → Sto → Prop} {r : R}
theorem gtName_eq {i : Nat} {d : D} (h : i < e.length) : gtName i d e = some (e.set i (some (.d d))) := if_pos h
theorem gtCons_eq {t : Tgt} {ts : Tgts} {d : D} {ds : List D} : gtCons t ts (d :: ds) e = (t d e).bind fun e1 => ts ds e1 := rfl
theorem gtNil_eq : gtNil [] e = some e := rfl
theorem gtTup_eq {n : Nat} {ts : Tgts} {ds : List D} : gtTup n ts (.tup ds) e = if ds.length = n then ts ds e else none := rfl
theorem look_locE {i : Nat} : look (.loc i) e S = ownQ e[i]? := by
  simp only [look]
  cases e[i]? with
  | none => rfl
  | some s => cases s with
    | none => rfl
    | some s => cases s <;> rfl
theorem look_locC {i : Nat} {a : Option Sl} : look (.loc i) (a :: e) S = ownQ (a :: e)[i]? := look_locE
theorem seqOf_locE {i : Nat} : seqOf (.loc i) e S = seqL (look (.loc i) e S) := by
  unfold seqOf seqL
  show (match look (.loc i) e S with | some (.lst ds) => some ds | _ => none) = _
  cases look (.loc i) e S with
  | none => rfl
  | some o => cases o <;> rfl
theorem seqOf_refE {n : Nat} : seqOf (.d (.ref n)) e S = seqL (S[n]?) := by
  unfold seqOf seqL
  show (match S[n]? with | some (.lst ds) => some ds | _ => none) = _
  cases S[n]? with
  | none => rfl
  | some o => cases o <;> rfl
theorem lstOf_E : lstOf r e S = seqL (look r e S) := by
  unfold lstOf seqL
  cases look r e S with
  | none => rfl
  | some o => cases o <;> rfl
theorem isTy_listE : isTy "list" r e S = isL (look r e S) := by
  unfold isTy
  rw [if_neg (by decide), if_pos rfl]
  cases look r e S with
  | none => rfl
  | some o => cases o <;> rfl
theorem wp_toRt_locE {i : Nat} : Wp (toRt (.loc i)) e S F ↔ ∃ o, look (.loc i) e S = some o ∧ F (.rt (.new o)) e S := by
  constructor
  · rintro ⟨a, e', S', h, q⟩
    obtain ⟨o, h1, h2⟩ := toRt_loc h
    cases h2
    exact ⟨o, look_loc h1, q⟩
  · rintro ⟨o, h, q⟩
    rw [look_locE] at h
    have : e[i]? = some (some (.own o)) := by
      cases h1 : e[i]? with
      | none => rw [h1] at h; cases h
      | some s => cases s with
        | none => rw [h1] at h; cases h
        | some s => cases s <;> rw [h1] at h <;> cases h; rfl
    exact (wp_toRt_loc this).mpr q
theorem own_of {i : Nat} {o : O} (h : look (.loc i) e S = some o) : e[i]? = some (some (.own o)) := by
  rw [look_locE] at h
  cases h1 : e[i]? with
  | none => rw [h1] at h; cases h
  | some s => cases s with
    | none => rw [h1] at h; cases h
    | some s => cases s <;> rw [h1] at h <;> cases h; rfl
theorem toArg_locE {i : Nat} : toArg (.loc i) e = (look (.loc i) e []).map Sl.brw := by
  rw [look_locE]
  simp only [toArg]
  cases e[i]? with
  | none => rfl
  | some s => cases s with
    | none => rfl
    | some s => cases s <;> rfl
theorem wp_toD_locE {i : Nat} : Wp (toD (.loc i)) e S Q ↔ ∃ o, look (.loc i) e S = some o ∧ ∃ d, lock o = some d ∧ Q (.d d) (e.set i (some (.d d))) S := by
  constructor
  · rintro ⟨a, e', S', h, q⟩
    unfold toD at h
    dsimp only at h
    split at h
    · rename_i o ho
      obtain ⟨d, h1, h2⟩ := Option.map_eq_some_iff.mp h
      cases h2
      exact ⟨o, look_loc ho, d, h1, q⟩
    · cases h
  · rintro ⟨o, h, d, hl, q⟩
    refine ⟨_, _, _, ?_, q⟩
    unfold toD
    simp only [own_of h, hl, Option.map_some]
theorem wp_src_locE {i : Nat} {q : Src → En → Sto → Prop} : Wp (srcOf (.loc i)) e S q ↔ ∃ ds, look (.loc i) e S = some (.lst ds) ∧ q ⟨ds, [(.loc i, ds)]⟩ e S := by
  constructor
  · rintro ⟨a, e', S', h, k⟩
    unfold srcOf at h
    dsimp only at h
    split at h
    · rename_i h2; cases h; exact ⟨_, h2, k⟩
    · cases h
  · rintro ⟨ds, h, k⟩
    exact (wp_src_loc (own_of h)).mpr k
theorem wp_ixE (h1 : ∀ ds, r ≠ .d (.tup ds)) (h2 : ∀ s, r ≠ .d (.str s)) {y : D} : Wp (gIx r (.d y)) e S Q ↔ ∃ d, ixO (look r e S) y = some d ∧ Q (.d d) e S := by
  refine wp_map (k := fun d => R.d d) ?_
  have hq : gIx r (.d y) e S = (match look r e S with
    | some (.lst ds) => (match y with
      | .int i => (atD ds i).map fun d => (R.d d, e, S)
      | _ => none)
    | some (.dct kvs) => (keyOf y).bind fun k => (valD kvs k).map fun d => (R.d d, e, S)
    | _ => none) := by
    cases r with
    | d x => cases x <;> first | exact (h1 _ rfl).elim | exact (h2 _ rfl).elim | rfl
    | _ => rfl
  rw [hq]
  cases look r e S with
  | none => rfl
  | some o => cases o with
    | lst ds => cases y <;> rfl
    | dct kvs =>
      simp only [ixO]
      cases keyOf y <;> rfl
    | kd kvs => cases y <;> rfl
    | tab q => cases y <;> rfl
    | ins _ _ _ => cases y <;> rfl
    | kx _ => cases y <;> rfl
theorem wp_ix_locC {i : Nat} {y : D} : Wp (gIx (.loc i) (.d y)) e S Q ↔ ∃ d, ixO (look (.loc i) e S) y = some d ∧ Q (.d d) e S := wp_ixE (by intro _ h; cases h) (by intro _ h; cases h)
theorem wp_ix_refC {i : Nat} {y : D} : Wp (gIx (.d (.ref i)) (.d y)) e S Q ↔ ∃ d, ixO S[i]? y = some d ∧ Q (.d d) e S := wp_ixE (by intro _ h; cases h) (by intro _ h; cases h)
theorem wp_ix_newC {o : O} {y : D} : Wp (gIx (.new o) (.d y)) e S Q ↔ ∃ d, ixO (some o) y = some d ∧ Q (.d d) e S := wp_ixE (by intro _ h; cases h) (by intro _ h; cases h)
theorem wp_ix_brwC {o : O} {y : D} : Wp (gIx (.brw o) (.d y)) e S Q ↔ ∃ d, ixO (some o) y = some d ∧ Q (.d d) e S := wp_ixE (by intro _ h; cases h) (by intro _ h; cases h)
theorem wp_slE (h1 : ∀ ds, r ≠ .d (.tup ds)) (h2 : ∀ s, r ≠ .d (.str s)) {lo hi : Option Int} : Wp (gSl r lo hi) e S Q ↔ ∃ ds, seqL (look r e S) = some ds ∧ Q (.new (.lst (cutD ds lo hi))) e S := by
  refine wp_map (k := fun ds => R.new (.lst (cutD ds lo hi))) ?_
  have : gSl r lo hi e S = (match look r e S with
    | some (.lst ds) => some (R.new (.lst (cutD ds lo hi)), e, S)
    | _ => none) := by
    cases r with
    | d x => cases x <;> first | exact (h1 _ rfl).elim | exact (h2 _ rfl).elim | rfl
    | _ => rfl
  rw [this]
  cases look r e S with
  | none => rfl
  | some o => cases o <;> rfl
theorem wp_sl_locC {i : Nat} {lo hi : Option Int} : Wp (gSl (.loc i) lo hi) e S Q ↔ ∃ ds, seqL (look (.loc i) e S) = some ds ∧ Q (.new (.lst (cutD ds lo hi))) e S := wp_slE (by intro _ h; cases h) (by intro _ h; cases h)
theorem wp_sl_refC {i : Nat} {lo hi : Option Int} : Wp (gSl (.d (.ref i)) lo hi) e S Q ↔ ∃ ds, seqL S[i]? = some ds ∧ Q (.new (.lst (cutD ds lo hi))) e S := wp_slE (by intro _ h; cases h) (by intro _ h; cases h)
theorem wp_sl_newC {o : O} {lo hi : Option Int} : Wp (gSl (.new o) lo hi) e S Q ↔ ∃ ds, seqL (some o) = some ds ∧ Q (.new (.lst (cutD ds lo hi))) e S := wp_slE (by intro _ h; cases h) (by intro _ h; cases h)
theorem wp_sl_brwC {o : O} {lo hi : Option Int} : Wp (gSl (.brw o) lo hi) e S Q ↔ ∃ ds, seqL (some o) = some ds ∧ Q (.new (.lst (cutD ds lo hi))) e S := wp_slE (by intro _ h; cases h) (by intro _ h; cases h)
theorem wp_sl_dlC {ds : List D} {lo hi : Option Int} : Wp (gSl (.d (.lst ds)) lo hi) e S Q ↔ Q (.new (.lst (cutD ds lo hi))) e S := wp_sl_lst rfl
theorem wp_len_E (h2 : ∀ s, r ≠ .d (.str s)) : Wp (gLen r) e S Q ↔ ∃ ds, seqOf r e S = some ds ∧ Q (.d (.int ds.length)) e S := by
  refine wp_map (k := fun ds : List D => R.d (.int (ds.length : Nat))) ?_
  cases r with
  | d x => cases x <;> first | exact (h2 _ rfl).elim | rfl
  | _ => rfl
theorem wp_len_locC {i : Nat} : Wp (gLen (.loc i)) e S Q ↔ ∃ ds, seqOf (.loc i) e S = some ds ∧ Q (.d (.int ds.length)) e S := wp_len_E (by intro _ h; cases h)
theorem wp_len_refC {i : Nat} : Wp (gLen (.d (.ref i))) e S Q ↔ ∃ ds, seqOf (.d (.ref i)) e S = some ds ∧ Q (.d (.int ds.length)) e S := wp_len_E (by intro _ h; cases h)
theorem wp_blsE {f : List Bool → Bool} : Wp (gBls f r) e S Q ↔ ∃ ds, lstOf r e S = some ds ∧ ∃ bs, blsOf ds = some bs ∧ Q (.d (.bl (f bs))) e S := by
  constructor
  · rintro ⟨a, e', S', h, q⟩
    obtain ⟨ds, h1, h2⟩ := Option.bind_eq_some_iff.mp h
    obtain ⟨bs, h3, h4⟩ := Option.map_eq_some_iff.mp h2
    cases h4
    exact ⟨ds, h1, bs, h3, q⟩
  · rintro ⟨ds, h1, bs, h2, q⟩
    exact (wp_bls h1 h2).mpr q
theorem wp_dictE : Wp (gDict r) e S Q ↔ ∃ ds, lstOf r e S = some ds ∧ ∃ kvs, prsOf ds = some kvs ∧ Q (.new (.dct (mergeD [] kvs))) e S := by
  constructor
  · rintro ⟨a, e', S', h, q⟩
    obtain ⟨ds, h1, h2⟩ := Option.bind_eq_some_iff.mp h
    obtain ⟨bs, h3, h4⟩ := Option.map_eq_some_iff.mp h2
    cases h4
    exact ⟨ds, h1, bs, h3, q⟩
  · rintro ⟨ds, h1, bs, h2, q⟩
    exact (wp_dict h1 h2).mpr q
theorem wp_appendE {x : D} : Wp (gAppend r [.d x]) e S Q ↔ ∃ ds, look r e S = some (.lst ds) ∧ isW r = true ∧ ds.length < 1000000 ∧ Q (.d .non) (putE r (.lst (ds ++ [x])) e) (putS r (.lst (ds ++ [x])) S) := by
  constructor
  · rintro ⟨a, e', S', h, q⟩
    obtain ⟨ds, y, es, h1, h2, h3, h4⟩ := wrL_eq (show wrL r _ e S = _ from h)
    cases h4
    split at h3
    · cases h3; exact ⟨ds, h1, h2, by assumption, q⟩
    · cases h3
  · rintro ⟨ds, h1, h2, h3, q⟩
    exact (wp_append h1 h2 h3).mpr q
theorem wp_popE : Wp (gPop r []) e S Q ↔ ∃ ds, look r e S = some (.lst ds) ∧ isW r = true ∧ ∃ d, ds[ds.length - 1]? = some d ∧ Q (.d d) (putE r (.lst ds.dropLast) e) (putS r (.lst ds.dropLast) S) := by
  constructor
  · rintro ⟨a, e', S', h, q⟩
    obtain ⟨ds, y, es, h1, h2, h3, h4⟩ := wrL_eq (show wrL r _ e S = _ from h)
    cases h4
    obtain ⟨d, h5, h6⟩ := Option.map_eq_some_iff.mp h3
    cases h6
    exact ⟨ds, h1, h2, d, h5, q⟩
  · rintro ⟨ds, h1, h2, d, h3, q⟩
    exact (wp_wrL h1 h2 (by rw [h3]; rfl)).mpr q
theorem wp_setItE {k : Int} {x : D} : Wp (setIt r (.d (.int k)) x) e S F ↔ ∃ ds, look r e S = some (.lst ds) ∧ isW r = true ∧ ∃ j, ixN ds.length k = some j ∧ F .nx (putE r (.lst (ds.set j x)) e) (putS r (.lst (ds.set j x)) S) := by
  constructor
  · rintro ⟨a, e', S', h, q⟩
    obtain ⟨ds, k', j, h1, h2, h3, h4, h5⟩ := setIt_eq h
    cases h2; cases h5
    exact ⟨ds, h1, h3, j, h4, q⟩
  · rintro ⟨ds, h1, h2, j, h3, q⟩
    exact (wp_setIt h1 h2 h3).mpr q
theorem wp_indexE {x : D} : Wp (gIndex r [.d x]) e S Q ↔ ∃ ds, lstOf r e S = some ds ∧ flat x = true ∧ ds.all flat = true ∧ ∃ j, idxD x ds = some j ∧ Q (.d (.int (j : Nat))) e S := by
  constructor
  · rintro ⟨a, e', S', h, q⟩
    obtain ⟨ds, h1, h2⟩ := Option.bind_eq_some_iff.mp (show (lstOf r e S).bind _ = _ from h)
    split at h2
    · rename_i hf
      rw [Bool.and_eq_true] at hf
      obtain ⟨j, h3, h4⟩ := Option.map_eq_some_iff.mp h2
      cases h4
      exact ⟨ds, h1, hf.1, hf.2, j, h3, q⟩
    · cases h2
  · rintro ⟨ds, h1, h2, h3, j, h4, q⟩
    exact (wp_index h1 h2 h3 h4).mpr q
theorem wp_joinE {a : Str} : Wp (gJoin (.d (.str a)) [r]) e S Q ↔ ∃ ds, seqOf r e S = some ds ∧ ∃ ys, strsOf ds = some ys ∧ (ys.map (·.length)).sum + ys.length * a.length ≤ 16777216 ∧ Q (.d (.str (Txt.join a ys))) e S := by
  constructor
  · rintro ⟨z, e', S', h, q⟩
    obtain ⟨ds, h1, h2⟩ := Option.bind_eq_some_iff.mp (show (seqOf r e S).bind _ = _ from h)
    obtain ⟨ys, h3, h4⟩ := Option.bind_eq_some_iff.mp h2
    split at h4
    · cases h4; exact ⟨ds, h1, ys, h3, by assumption, q⟩
    · cases h4
  · rintro ⟨ds, h1, ys, h2, h3, q⟩
    exact (wp_join h1 h2 h3).mpr q
theorem wp_sortedKE : Wp (gSortedK r) e S Q ↔ ∃ kvs, look r e S = some (.dct kvs) ∧ ∃ ks, keysS kvs = some ks ∧ ks.length < 64 ∧ Q (.new (.lst ((srtS ks).map D.str))) e S := by
  constructor
  · rintro ⟨z, e', S', h, q⟩
    unfold gSortedK at h
    split at h
    · obtain ⟨ks, h3, h4⟩ := Option.bind_eq_some_iff.mp h
      split at h4
      · cases h4; exact ⟨_, by assumption, ks, h3, by assumption, q⟩
      · cases h4
    · cases h
  · rintro ⟨kvs, h1, ks, h2, h3, q⟩
    exact (wp_sortedK h1 h2 h3).mpr q
theorem wp_in_tupC {neg : Bool} {x : D} {ds : List D} : Wp (gIn neg (.d x) (.d (.tup ds))) e S Q ↔ datB x = true ∧ datsB ds = true ∧ ∃ b, inF x ds = some b ∧ Q (.d (.bl (b != neg))) e S := by
  rw [wp_inG (by intro _ h; cases h)]
  simp only [seqOf_tup, Option.some.injEq, exists_eq_left']
theorem wp_in_locC {neg : Bool} {x : D} {i : Nat} : Wp (gIn neg (.d x) (.loc i)) e S Q ↔ ∃ ds, seqOf (.loc i) e S = some ds ∧ datB x = true ∧ datsB ds = true ∧ ∃ b, inF x ds = some b ∧ Q (.d (.bl (b != neg))) e S := wp_inG (by intro _ h; cases h)
theorem wp_in_newC {neg : Bool} {x : D} {ds : List D} : Wp (gIn neg (.d x) (.new (.lst ds))) e S Q ↔ datB x = true ∧ datsB ds = true ∧ ∃ b, inF x ds = some b ∧ Q (.d (.bl (b != neg))) e S := by
  rw [wp_inG (by intro _ h; cases h)]
  simp only [seqOf_new, Option.some.injEq, exists_eq_left']
theorem wp_in_brwC {neg : Bool} {x : D} {ds : List D} : Wp (gIn neg (.d x) (.brw (.lst ds))) e S Q ↔ datB x = true ∧ datsB ds = true ∧ ∃ b, inF x ds = some b ∧ Q (.d (.bl (b != neg))) e S := by
  rw [wp_inG (by intro _ h; cases h)]
  simp only [seqOf_brw, Option.some.injEq, exists_eq_left']
theorem wp_in_dlC {neg : Bool} {x : D} {ds : List D} : Wp (gIn neg (.d x) (.d (.lst ds))) e S Q ↔ datB x = true ∧ datsB ds = true ∧ ∃ b, inF x ds = some b ∧ Q (.d (.bl (b != neg))) e S := by
  rw [wp_inG (by intro _ h; cases h)]
  simp only [seqOf_lst, Option.some.injEq, exists_eq_left']
theorem datB_non : datB .non = true := rfl
theorem datB_bl {b : Bool} : datB (.bl b) = true := rfl
theorem datB_int {i : Int} : datB (.int i) = true := rfl
theorem datB_str {x : Str} : datB (.str x) = true := rfl
theorem datB_tup {ds : List D} : datB (.tup ds) = datsB ds := by simp only [datB]
theorem datB_lst {ds : List D} : datB (.lst ds) = datsB ds := by simp only [datB]
theorem datB_dic {ks : List Key} {ds : List D} : datB (.dic ks ds) = datsB ds := by simp only [datB]
theorem datsB_nil : datsB [] = true := rfl
theorem datsB_cons {d : D} {ds : List D} : datsB (d :: ds) = (datB d && datsB ds) := by simp only [datsB]
theorem datsB_strs {xs : List Str} : datsB (xs.map D.str) = true := by rw [datsB_all]; simp [datB]
theorem datsB_ints {xs : List Int} : datsB (xs.map D.int) = true := by rw [datsB_all]; simp [datB]
theorem flats_strs {xs : List Str} : (xs.map D.str).all flat = true := by simp [flat]
theorem flats_ints {xs : List Int} : (xs.map D.int).all flat = true := by simp [flat]
theorem flat_int {i : Int} : flat (.int i) = true := rfl
theorem flat_str {x : Str} : flat (.str x) = true := rfl
theorem flat_bl {b : Bool} : flat (.bl b) = true := rfl
theorem flat_non : flat .non = true := rfl
def srcV : R → En → Sto → Option Src
  | .d (.tup ds), _, _ => some ⟨ds, []⟩
  | .d (.lst ds), _, _ => some ⟨ds, []⟩
  | .new (.lst ds), _, _ => some ⟨ds, []⟩
  | .brw (.lst ds), _, _ => some ⟨ds, []⟩
  | .loc i, e, S => (seqL (look (.loc i) e S)).map fun ds => ⟨ds, [(.loc i, ds)]⟩
  | _, _, _ => none
end
end G

set_option Elab.async false
set_option linter.all false
set_option maxRecDepth 100000
set_option maxHeartbeats 4000000
/-! GV: the calculus in one bundle. -/
namespace G
variable [Wld]
open PySem PySem.Spec PyProof.Rows L2
section
variable {e : En} {S : Sto} {Q : R → En → Sto → Prop}
theorem wp_repr {r : R} : Wp (gRepr r) e S Q ↔ ∃ x, dat r e S = some x ∧ ∃ t, shownD x = some t ∧ Q (.d (.str t)) e S := by
  constructor
  · rintro ⟨a, e', S', h, q⟩
    obtain ⟨x, h1, h2⟩ := Option.bind_eq_some_iff.mp (show (dat r e S).bind _ = _ from h)
    obtain ⟨t, h3, h4⟩ := Option.map_eq_some_iff.mp h2
    cases h4
    exact ⟨x, h1, t, h3, q⟩
  · rintro ⟨x, h1, t, h2, q⟩
    exact ⟨_, _, _, by unfold gRepr; rw [h1]; simp [h2], q⟩
theorem wp_add_tup {xs ys : List D} : Wp (gAdd (.d (.tup xs)) (.d (.tup ys))) e S Q ↔ xs.length + ys.length ≤ 1000000 ∧ Q (.d (.tup (xs ++ ys))) e S := by
  unfold Wp gAdd
  by_cases h : xs.length + ys.length ≤ 1000000
  · simp only [if_pos h]; exact ⟨fun ⟨_, _, _, h1, q⟩ => by cases h1; exact ⟨h, q⟩, fun q => ⟨_, _, _, rfl, q.2⟩⟩
  · simp only [if_neg h]; exact ⟨fun ⟨_, _, _, h1, q⟩ => (nomatch h1), fun q => (h q.1).elim⟩
theorem wp_upper {x : Str} : Wp (gUpper (.d (.str x)) []) e S Q ↔ x.length ≤ 1000000 ∧ Q (.d (.str (Txt.upper x))) e S := by
  unfold Wp gUpper
  by_cases h : x.length ≤ 1000000
  · simp only [if_pos h]; exact ⟨fun ⟨_, _, _, h1, q⟩ => by cases h1; exact ⟨h, q⟩, fun q => ⟨_, _, _, rfl, q.2⟩⟩
  · simp only [if_neg h]; exact ⟨fun ⟨_, _, _, h1, q⟩ => (nomatch h1), fun q => (h q.1).elim⟩
theorem wp_addG {rx ry : R} (hn : ∀ x y, rx = .d x → ry = .d y → False) : Wp (gAdd rx ry) e S Q ↔ ∃ xs, look rx e S = some (.lst xs) ∧ ∃ ys, look ry e S = some (.lst ys) ∧ notLst rx = true ∧ notLst ry = true ∧ xs.length + ys.length ≤ 1000000 ∧ Q (.new (.lst (xs ++ ys))) e S := by
  have hq : gAdd rx ry e S = (match look rx e S, look ry e S with
    | some (.lst xs), some (.lst ys) => if notLst rx && notLst ry && decide (xs.length + ys.length ≤ 1000000) then some (R.new (.lst (xs ++ ys)), e, S) else none
    | _, _ => none) := by
    cases rx with
    | d x => cases ry with
      | d y => exact (hn x y rfl rfl).elim
      | _ => cases x <;> rfl
    | _ => rfl
  unfold Wp
  rw [hq]
  constructor
  · rintro ⟨a, e', S', h, q⟩
    split at h
    · rename_i xs ys h1 h2
      split at h
      · rename_i hc
        cases h
        simp only [Bool.and_eq_true, decide_eq_true_eq] at hc
        exact ⟨xs, h1, ys, h2, hc.1.1, hc.1.2, hc.2, q⟩
      · cases h
    · cases h
  · rintro ⟨xs, h1, ys, h2, h3, h4, h5, q⟩
    exact ⟨_, _, _, by rw [h1, h2]; simp [h3, h4, h5], q⟩
theorem wp_add_nn {xs ys : List D} : Wp (gAdd (.new (.lst xs)) (.new (.lst ys))) e S Q ↔ xs.length + ys.length ≤ 1000000 ∧ Q (.new (.lst (xs ++ ys))) e S := by
  rw [wp_addG (by intro _ _ h; cases h)]
  simp only [look_new, look_brw, Option.some.injEq, O.lst.injEq, exists_eq_left', true_and, notLst]
theorem wp_add_nb {xs ys : List D} : Wp (gAdd (.new (.lst xs)) (.brw (.lst ys))) e S Q ↔ xs.length + ys.length ≤ 1000000 ∧ Q (.new (.lst (xs ++ ys))) e S := by
  rw [wp_addG (by intro _ _ h; cases h)]
  simp only [look_new, look_brw, Option.some.injEq, O.lst.injEq, exists_eq_left', true_and, notLst]
theorem wp_add_bn {xs ys : List D} : Wp (gAdd (.brw (.lst xs)) (.new (.lst ys))) e S Q ↔ xs.length + ys.length ≤ 1000000 ∧ Q (.new (.lst (xs ++ ys))) e S := by
  rw [wp_addG (by intro _ _ h; cases h)]
  simp only [look_new, look_brw, Option.some.injEq, O.lst.injEq, exists_eq_left', true_and, notLst]
theorem wp_add_bb {xs ys : List D} : Wp (gAdd (.brw (.lst xs)) (.brw (.lst ys))) e S Q ↔ xs.length + ys.length ≤ 1000000 ∧ Q (.new (.lst (xs ++ ys))) e S := by
  rw [wp_addG (by intro _ _ h; cases h)]
  simp only [look_new, look_brw, Option.some.injEq, O.lst.injEq, exists_eq_left', true_and, notLst]
theorem wp_add_ln {i : Nat} {ys : List D} : Wp (gAdd (.loc i) (.new (.lst ys))) e S Q ↔ ∃ xs, look (.loc i) e S = some (.lst xs) ∧ xs.length + ys.length ≤ 1000000 ∧ Q (.new (.lst (xs ++ ys))) e S := by
  rw [wp_addG (by intro _ _ h; cases h)]
  simp only [look_new, look_brw, Option.some.injEq, O.lst.injEq, exists_eq_left', true_and, notLst]
theorem wp_add_lb {i : Nat} {ys : List D} : Wp (gAdd (.loc i) (.brw (.lst ys))) e S Q ↔ ∃ xs, look (.loc i) e S = some (.lst xs) ∧ xs.length + ys.length ≤ 1000000 ∧ Q (.new (.lst (xs ++ ys))) e S := by
  rw [wp_addG (by intro _ _ h; cases h)]
  simp only [look_new, look_brw, Option.some.injEq, O.lst.injEq, exists_eq_left', true_and, notLst]
theorem wp_add_ll {i j : Nat} : Wp (gAdd (.loc i) (.loc j)) e S Q ↔ ∃ xs, look (.loc i) e S = some (.lst xs) ∧ ∃ ys, look (.loc j) e S = some (.lst ys) ∧ xs.length + ys.length ≤ 1000000 ∧ Q (.new (.lst (xs ++ ys))) e S := by
  rw [wp_addG (by intro _ _ h; cases h)]
  simp only [true_and, notLst]
theorem wp_add_nl {j : Nat} {xs : List D} : Wp (gAdd (.new (.lst xs)) (.loc j)) e S Q ↔ ∃ ys, look (.loc j) e S = some (.lst ys) ∧ xs.length + ys.length ≤ 1000000 ∧ Q (.new (.lst (xs ++ ys))) e S := by
  rw [wp_addG (by intro _ _ h; cases h)]
  simp only [look_new, look_brw, Option.some.injEq, O.lst.injEq, exists_eq_left', true_and, notLst]
theorem wp_add_bl {j : Nat} {xs : List D} : Wp (gAdd (.brw (.lst xs)) (.loc j)) e S Q ↔ ∃ ys, look (.loc j) e S = some (.lst ys) ∧ xs.length + ys.length ≤ 1000000 ∧ Q (.new (.lst (xs ++ ys))) e S := by
  rw [wp_addG (by intro _ _ h; cases h)]
  simp only [look_new, look_brw, Option.some.injEq, O.lst.injEq, exists_eq_left', true_and, notLst]
theorem wp_add_bi {a : Bool} {j : Int} : Wp (gAdd (.d (.bl a)) (.d (.int j))) e S Q ↔ Q (.d (.int ((if a = true then 1 else 0) + j))) e S := wp_some rfl
theorem dSub_bi {a : Bool} {j : Int} : dSub (.bl a) (.int j) = some (.int ((if a = true then 1 else 0) - j)) := rfl
theorem dSub_ib {i : Int} {b : Bool} : dSub (.int i) (.bl b) = some (.int (i - if b = true then 1 else 0)) := rfl
theorem wp_mDn : Wp mDn e S Q ↔ Q (.new (.dct [])) e S := wp_pur
theorem wp_toD_dct {kvs : List (Key × D)} : Wp (toD (.new (.dct kvs))) e S Q ↔ Q (.d (.dic (kvs.map (·.1)) (kvs.map (·.2)))) e S := wp_some rfl
theorem wp_str1 {x : Str} : Wp (gStr (.d (.str x))) e S Q ↔ Q (.d (.str x)) e S := wp_some rfl
end
theorem ev0 : type_of% (And.intro @wp_mSeq (And.intro @wp_mSet (And.intro @wp_mC (And.intro @wp_setS_d (And.intro @wp_setS_new (And.intro @seQ_nx (And.intro @seQ_rt (And.intro @seQ_bk (And.intro @seQ_ct (And.intro @lpQ_nx (And.intro @lpQ_ct (And.intro @lpQ_bk (And.intro @lpQ_rt (And.intro @flQ_rt (And.intro @flQ_nx (And.intro @flQ_bk (And.intro @flQ_ct (And.intro @wp_mFor (And.intro @wp_mSrc (And.intro @wp_mSl (And.intro @wp_pur (And.intro @wp_bnd (And.intro @wp_asI (And.intro @wp_mVarC (And.intro @varQ_d (And.intro @varQ_own (And.intro @varQ_brw (And.intro @wp_gP (And.intro @wp_add_int (And.intro @wp_mBin (And.intro @wp_mUn (And.intro @wp_neg (And.intro @wp_mRet (And.intro @wp_mBox (And.intro @wp_mLst (And.intro @wp_mTup (And.intro @wp_mCons (And.intro @wp_mNil (And.intro @wp_mLc @wp_src_tup))))))))))))))))))))))))))))))))))))))) := (And.intro @wp_mSeq (And.intro @wp_mSet (And.intro @wp_mC (And.intro @wp_setS_d (And.intro @wp_setS_new (And.intro @seQ_nx (And.intro @seQ_rt (And.intro @seQ_bk (And.intro @seQ_ct (And.intro @lpQ_nx (And.intro @lpQ_ct (And.intro @lpQ_bk (And.intro @lpQ_rt (And.intro @flQ_rt (And.intro @flQ_nx (And.intro @flQ_bk (And.intro @flQ_ct (And.intro @wp_mFor (And.intro @wp_mSrc (And.intro @wp_mSl (And.intro @wp_pur (And.intro @wp_bnd (And.intro @wp_asI (And.intro @wp_mVarC (And.intro @varQ_d (And.intro @varQ_own (And.intro @varQ_brw (And.intro @wp_gP (And.intro @wp_add_int (And.intro @wp_mBin (And.intro @wp_mUn (And.intro @wp_neg (And.intro @wp_mRet (And.intro @wp_mBox (And.intro @wp_mLst (And.intro @wp_mTup (And.intro @wp_mCons (And.intro @wp_mNil (And.intro @wp_mLc @wp_src_tup)))))))))))))))))))))))))))))))))))))))
theorem ev1 : type_of% (And.intro @wp_src_lst (And.intro @wp_src_new (And.intro @wp_src_brw (And.intro @wipeE_cons (And.intro @wipeE_nil (And.intro @wp_toBox (And.intro @dsOf_cons (And.intro @dsOf_nil (And.intro @wp_toRt_d (And.intro @wp_toRt_new (And.intro @wp_mIf (And.intro @wp_mIfS (And.intro @wp_mNot (And.intro @wp_mAnd (And.intro @wp_mOr (And.intro @wp_mAndV (And.intro @wp_mOrV (And.intro @wp_mNotV (And.intro @wp_asB (And.intro @wp_mSkip (And.intro @wp_mDrop (And.intro @wp_mRetN (And.intro @wp_mSetI (And.intro @wp_mAsg (And.intro @wp_mPar2 (And.intro @wp_mPar3 (And.intro @wp_mCall (And.intro @toArgs_nil (And.intro @toArgs_cons (And.intro @toArg_d (And.intro @toArg_new (And.intro @toArg_brw (And.intro @r_d (And.intro @r_new (And.intro @g1_one (And.intro @wp_len_str (And.intro @wp_int_int (And.intro @wp_int_bl (And.intro @wp_add_str @wp_eq_int))))))))))))))))))))))))))))))))))))))) := (And.intro @wp_src_lst (And.intro @wp_src_new (And.intro @wp_src_brw (And.intro @wipeE_cons (And.intro @wipeE_nil (And.intro @wp_toBox (And.intro @dsOf_cons (And.intro @dsOf_nil (And.intro @wp_toRt_d (And.intro @wp_toRt_new (And.intro @wp_mIf (And.intro @wp_mIfS (And.intro @wp_mNot (And.intro @wp_mAnd (And.intro @wp_mOr (And.intro @wp_mAndV (And.intro @wp_mOrV (And.intro @wp_mNotV (And.intro @wp_asB (And.intro @wp_mSkip (And.intro @wp_mDrop (And.intro @wp_mRetN (And.intro @wp_mSetI (And.intro @wp_mAsg (And.intro @wp_mPar2 (And.intro @wp_mPar3 (And.intro @wp_mCall (And.intro @toArgs_nil (And.intro @toArgs_cons (And.intro @toArg_d (And.intro @toArg_new (And.intro @toArg_brw (And.intro @r_d (And.intro @r_new (And.intro @g1_one (And.intro @wp_len_str (And.intro @wp_int_int (And.intro @wp_int_bl (And.intro @wp_add_str @wp_eq_int)))))))))))))))))))))))))))))))))))))))
theorem ev2 : type_of% (And.intro @wp_eq_str (And.intro @wp_eq_bl (And.intro @dSub_int (And.intro @dLt_int (And.intro @dLe_int (And.intro @wp_mMth (And.intro @isTy_str (And.intro @putE_loc (And.intro @putE_ref (And.intro @putS_loc (And.intro @putS_ref (And.intro @isW_loc (And.intro @isW_ref (And.intro @look_new (And.intro @look_brw (And.intro @look_dl (And.intro @look_ref (And.intro @wp_sl_tup (And.intro @wp_mStar (And.intro @wp_mIsi (And.intro @wp_gIsN (And.intro @atD_0 (And.intro @atD_1 (And.intro @atD_2 (And.intro @atD_3 (And.intro @atD_4 (And.intro @wp_ix_tup (And.intro @wp_ix_new (And.intro @wp_ix_brw (And.intro @wp_ix_dl (And.intro @wp_mD (And.intro @wp_toD_d (And.intro @wp_toD_new (And.intro @wp_srcR1 (And.intro @wp_srcStr (And.intro @wp_len_tup (And.intro @wp_len_lst (And.intro @wp_len_new (And.intro @wp_len_brw @look_locC))))))))))))))))))))))))))))))))))))))) := (And.intro @wp_eq_str (And.intro @wp_eq_bl (And.intro @dSub_int (And.intro @dLt_int (And.intro @dLe_int (And.intro @wp_mMth (And.intro @isTy_str (And.intro @putE_loc (And.intro @putE_ref (And.intro @putS_loc (And.intro @putS_ref (And.intro @isW_loc (And.intro @isW_ref (And.intro @look_new (And.intro @look_brw (And.intro @look_dl (And.intro @look_ref (And.intro @wp_sl_tup (And.intro @wp_mStar (And.intro @wp_mIsi (And.intro @wp_gIsN (And.intro @atD_0 (And.intro @atD_1 (And.intro @atD_2 (And.intro @atD_3 (And.intro @atD_4 (And.intro @wp_ix_tup (And.intro @wp_ix_new (And.intro @wp_ix_brw (And.intro @wp_ix_dl (And.intro @wp_mD (And.intro @wp_toD_d (And.intro @wp_toD_new (And.intro @wp_srcR1 (And.intro @wp_srcStr (And.intro @wp_len_tup (And.intro @wp_len_lst (And.intro @wp_len_new (And.intro @wp_len_brw @look_locC)))))))))))))))))))))))))))))))))))))))
theorem ev3 : type_of% (And.intro @ownQ_own (And.intro @seqL_lst (And.intro @isL_lst (And.intro @ixO_lst (And.intro @ixO_dct_int (And.intro @ixO_dct_str (And.intro @lock_lst (And.intro @seqOf_tup (And.intro @seqOf_lst (And.intro @seqOf_new (And.intro @seqOf_brw (And.intro @seqOf_locE (And.intro @seqOf_refE (And.intro @lstOf_E (And.intro @isTy_listE (And.intro @wp_toRt_locE (And.intro @toArg_locE (And.intro @wp_toD_locE (And.intro @wp_src_locE (And.intro @wp_ix_locC (And.intro @wp_ix_newC (And.intro @wp_ix_brwC (And.intro @wp_sl_locC (And.intro @wp_sl_refC (And.intro @wp_sl_newC (And.intro @wp_sl_brwC (And.intro @wp_sl_dlC (And.intro @wp_len_locC (And.intro @wp_len_refC (And.intro @wp_blsE (And.intro @wp_dictE (And.intro @wp_appendE (And.intro @wp_popE (And.intro @wp_indexE (And.intro @wp_joinE (And.intro @wp_sortedKE (And.intro @wp_in_tupC (And.intro @wp_in_locC (And.intro @wp_in_newC @wp_in_dlC))))))))))))))))))))))))))))))))))))))) := (And.intro @ownQ_own (And.intro @seqL_lst (And.intro @isL_lst (And.intro @ixO_lst (And.intro @ixO_dct_int (And.intro @ixO_dct_str (And.intro @lock_lst (And.intro @seqOf_tup (And.intro @seqOf_lst (And.intro @seqOf_new (And.intro @seqOf_brw (And.intro @seqOf_locE (And.intro @seqOf_refE (And.intro @lstOf_E (And.intro @isTy_listE (And.intro @wp_toRt_locE (And.intro @toArg_locE (And.intro @wp_toD_locE (And.intro @wp_src_locE (And.intro @wp_ix_locC (And.intro @wp_ix_newC (And.intro @wp_ix_brwC (And.intro @wp_sl_locC (And.intro @wp_sl_refC (And.intro @wp_sl_newC (And.intro @wp_sl_brwC (And.intro @wp_sl_dlC (And.intro @wp_len_locC (And.intro @wp_len_refC (And.intro @wp_blsE (And.intro @wp_dictE (And.intro @wp_appendE (And.intro @wp_popE (And.intro @wp_indexE (And.intro @wp_joinE (And.intro @wp_sortedKE (And.intro @wp_in_tupC (And.intro @wp_in_locC (And.intro @wp_in_newC @wp_in_dlC)))))))))))))))))))))))))))))))))))))))
theorem ev4 : type_of% (And.intro @wp_tuple (And.intro @wp_list (And.intro @gtName_eq (And.intro @gtCons_eq (And.intro @gtNil_eq (And.intro @gtTup_eq (And.intro @O.lst.injEq (And.intro @O.dct.injEq (And.intro @flat_int (And.intro @flat_str (And.intro @flat_bl (And.intro @flat_non (And.intro @Bool.and_self (And.intro @Bool.false_eq_true (And.intro @true_and (And.intro @and_true (And.intro @R.d.injEq (And.intro @D.bl.injEq (And.intro @D.int.injEq (And.intro @D.str.injEq (And.intro @Bool.bne_false (And.intro @Bool.bne_true (And.intro @Bool.not_true (And.intro @Bool.not_false (And.intro @datB_non (And.intro @datB_bl (And.intro @datB_int (And.intro @datB_str (And.intro @datB_tup (And.intro @datB_lst (And.intro @datB_dic (And.intro @datsB_nil (And.intro @datsB_cons (And.intro @datsB_strs (And.intro @datsB_ints (And.intro @inF_flat (And.intro @wp_in_brwC (And.intro @flats_strs (And.intro @flats_ints @wp_repr))))))))))))))))))))))))))))))))))))))) := (And.intro @wp_tuple (And.intro @wp_list (And.intro @gtName_eq (And.intro @gtCons_eq (And.intro @gtNil_eq (And.intro @gtTup_eq (And.intro @O.lst.injEq (And.intro @O.dct.injEq (And.intro @flat_int (And.intro @flat_str (And.intro @flat_bl (And.intro @flat_non (And.intro @Bool.and_self (And.intro @Bool.false_eq_true (And.intro @true_and (And.intro @and_true (And.intro @R.d.injEq (And.intro @D.bl.injEq (And.intro @D.int.injEq (And.intro @D.str.injEq (And.intro @Bool.bne_false (And.intro @Bool.bne_true (And.intro @Bool.not_true (And.intro @Bool.not_false (And.intro @datB_non (And.intro @datB_bl (And.intro @datB_int (And.intro @datB_str (And.intro @datB_tup (And.intro @datB_lst (And.intro @datB_dic (And.intro @datsB_nil (And.intro @datsB_cons (And.intro @datsB_strs (And.intro @datsB_ints (And.intro @inF_flat (And.intro @wp_in_brwC (And.intro @flats_strs (And.intro @flats_ints @wp_repr)))))))))))))))))))))))))))))))))))))))
theorem ev5 : type_of% (And.intro @wp_str1 (And.intro @wp_add_tup (And.intro @wp_upper (And.intro @wp_add_nn (And.intro @wp_add_nb (And.intro @wp_add_bn (And.intro @wp_add_bb (And.intro @wp_add_ln (And.intro @wp_add_nl (And.intro @wp_add_ll (And.intro @wp_add_lb (And.intro @wp_add_bl (And.intro @wp_mDn (And.intro @wp_toD_dct (And.intro @wp_add_bi (And.intro @dSub_bi @dSub_ib)))))))))))))))) := (And.intro @wp_str1 (And.intro @wp_add_tup (And.intro @wp_upper (And.intro @wp_add_nn (And.intro @wp_add_nb (And.intro @wp_add_bn (And.intro @wp_add_bb (And.intro @wp_add_ln (And.intro @wp_add_nl (And.intro @wp_add_ll (And.intro @wp_add_lb (And.intro @wp_add_bl (And.intro @wp_mDn (And.intro @wp_toD_dct (And.intro @wp_add_bi (And.intro @dSub_bi @dSub_ib))))))))))))))))
end G

set_option Elab.async false
set_option linter.all false
set_option maxRecDepth 1000000
set_option maxHeartbeats 4000000
/-! GN: tables of the written part; a local that holds a def; two defs that call each other. -/
namespace G
variable [Wld]
open PySem PySem.Spec PyProof.Rows L2
/-- a table of the text: keys that are texts -/
def TabAt (K : PySem.W.Frag) (d : Addr) (tb : List (Str × D)) : Prop := ∀ z, match tb.lookup z with
  | some x => ∃ u v, PySem.W.nsIn K d z = some (some u) ∧ RelV v u ∧ ∀ H ι, RD K H ι v x
  | none => PySem.W.nsIn K d z = some none
structure KTab (K : PySem.W.Frag) (w : World) (d : Addr) (tb : List (Str × D)) : Prop where
  dd : ∃ es n, KDict K w d es n
  at_ : TabAt K d tb
def gInT (neg : Bool) (d : Addr) (tb : List (Str × D)) (rx ry : R) : M R := match rx, ry with
  | .d (.str z), .d (.fn a) => if a = d then pur (.d (.bl ((tb.lookup z).isSome != neg))) else stk
  | _, _ => stk
def gIxT (d : Addr) (tb : List (Str × D)) (rx ry : R) : M R := match rx, ry with
  | .d (.fn a), .d (.str z) => if a = d then (match tb.lookup z with
    | some x => pur (.d x)
    | none => stk) else stk
  | _, _ => stk
section
variable {X : Cx} {d : Addr} {tb : List (Str × D)}
theorem gInT_read {neg : Bool} {x y : V} {H : Hp} {Q : VK} (q : tO2 X.K (gInT neg d tb) x y H Q) : ∃ z, x = .str z ∧ y = .ref d ∧ Q (.bl ((tb.lookup z).isSome != neg)) H := by
  obtain ⟨ι, σ, e, S, rx, ry, r, e', S', R, r1, r2, hm, q⟩ := q
  unfold gInT at hm
  split at hm
  · split at hm
    · rename_i ha
      cases hm
      cases r1; cases r2
      subst ha
      exact ⟨_, rfl, rfl, q _ H ι R .refl (.bl _) trivial⟩
    · cases hm
  · cases hm
theorem gop_notInT (T : KTab X.K X.w d tb) : OpR X (compareOp .NotIn) (tO2 X.K (gInT true d tb)) := by
  obtain ⟨es, n, D⟩ := T.dd
  refine OpR.imp (op_notIn_kd D) fun x y H Q q => ?_
  obtain ⟨z, rfl, rfl, q2⟩ := gInT_read q
  have h := T.at_ z
  cases ht : tb.lookup z with
  | none => rw [ht] at h q2; exact ⟨z, none, rfl, rfl, h, by simpa using q2⟩
  | some x =>
    rw [ht] at h q2
    obtain ⟨u, v, h1, _, _⟩ := h
    exact ⟨z, some u, rfl, rfl, h1, by simpa using q2⟩
theorem gIxT_eq {rx ry : R} {e : En} {S : Sto} {z : R × En × Sto} (h : gIxT d tb rx ry e S = some z) : ∃ t x, rx = .d (.fn d) ∧ ry = .d (.str t) ∧ tb.lookup t = some x ∧ z = (.d x, e, S) := by
  cases rx with
  | d x =>
    cases x with
    | fn a =>
      cases ry with
      | d y =>
        cases y with
        | str t =>
          simp only [gIxT] at h
          by_cases ha : a = d
          · rw [if_pos ha] at h
            cases hx : tb.lookup t with
            | none => rw [hx] at h; cases h
            | some x => rw [hx] at h; cases h; exact ⟨t, x, by rw [ha], rfl, hx, rfl⟩
          · rw [if_neg ha] at h; cases h
        | _ => cases h
      | _ => cases h
    | _ => cases h
  | _ => cases h
theorem ge_ixT {a b : Expr} {ma mb : M R} {pos : Pos} (T : KTab X.K X.w d tb) (ha : GE X a ma) (hb : GE X b mb) (hs : PlainIx b := by exact fun _ _ => rfl) : GE X (.Subscript a b pos) (mBin (gIxT d tb) ma mb) :=
  PE.imp (pe_ix ix_kdict ha hb hs) fun σ H Q q => by
    obtain ⟨ι, e, S, r, e', S', R, hm, q⟩ := q
    obtain ⟨x, e1, S1, h1, hm⟩ := bnd_eq hm
    obtain ⟨y, e2, S2, h2, hm⟩ := bnd_eq hm
    refine ⟨ι, e, S, _, e1, S1, R, h1, fun v H1 ι1 R1 P1 r1 _ => ⟨ι1, e1, S1, _, _, _, R1, h2, fun w H2 ι2 R2 P2 r2 _ => ?_⟩⟩
    have r1' := r1.post P2
    obtain ⟨z, x, rfl, rfl, hx, hz⟩ := gIxT_eq hm
    cases hz
    cases r1'; cases r2
    obtain ⟨es, n, D⟩ := T.dd
    have h := T.at_ z
    rw [hx] at h
    obtain ⟨u, v, k1, k2, k3⟩ := h
    exact ⟨_, _, v, rfl, rfl, ⟨es, n, u, D.at_, D.lit, k1, k2⟩, q v H2 ι2 R2 (P1.trans P2) (k3 H2 ι2) trivial⟩
/-- the table's own name -/
theorem ge_tab {x : Str} {pos : Pos} (hg : Gl X x) (hm : X.mg x = some (.ref d)) (hd : (x == ("__debug__" : Str)) = false := by decide) : GE X (.Name x pos) (mC (.fn d)) := ge_glob (v := .ref d) hg hm rfl (fun _ _ => .fn d) hd
end
/-! ### the facts of the written part -/
theorem findK {P : Params} : ∀ {es : List DictEntry} {ks : List Str} {us : List Value}, es.map He.keyOf = He.keysIn P ks → es.map (·.val) = us → ∀ z, (match es.find? (·.key.isStr z) with
      | some e => some (some e.val)
      | none => if es.any (·.refKey) then none else some none) = some ((ks.zip us).lookup z)
  | [], [], _, _, h, z => by subst h; rfl
  | [], _ :: _, _, h, _, _ => by cases h
  | _ :: _, [], _, h, _, _ => by cases h
  | e :: es, k :: ks, us, h1, h2, z => by
    subst h2
    have h3 : He.keyOf e :: es.map He.keyOf = some (k, PyData.keyHash P k) :: He.keysIn P ks := h1
    injection h3 with h4 h5
    have ih := findK h5 rfl z
    unfold He.keyOf at h4
    split at h4
    · rename_i x t q
      have h6 := (Prod.mk.inj (Option.some.inj h4)).1
      subst h6
      have e1 : e.key.isStr z = (x == z) := by rw [q]; rfl
      have e2 : e.refKey = false := by unfold DictEntry.refKey; rw [q]
      cases hz : x == z with
      | true =>
        have : (z == x) = true := by rw [beq_iff_eq] at hz ⊢; exact hz.symm
        simp only [List.find?, e1, hz, List.map_cons, List.zip_cons_cons, List.lookup, this]
      | false =>
        have : (z == x) = false := by rw [beq_eq_false_iff_ne] at hz ⊢; exact fun h => hz h.symm
        simp only [List.find?, e1, hz, List.map_cons, List.zip_cons_cons, List.lookup, this, List.any_cons, e2, Bool.false_or]
        exact ih
    · cases h4
theorem KTab.mk' {K : PySem.W.Frag} {w : World} {d : Addr} {es : Array DictEntry} {n : Nat} {ks : List Str} {us : List Value} {vs : List V} {ds : List D}
    (hl : K.lookup d = some ⟨.type "dict", none, .dict es n, #[]⟩) (fk : es.toList.map He.keyOf = He.keysIn w.params ks) (fv : es.toList.map (·.val) = us) (hs : (d == sysModules) = false)
    (hr : Vals vs us) (hd : ∀ H ι, RDs K H ι vs ds) : KTab K w d (ks.zip ds) := by
  refine ⟨⟨es, n, hl, He.keysLit_of fk, hs⟩, fun z => ?_⟩
  have e : PySem.W.nsIn K d z = some ((ks.zip us).lookup z) := by
    unfold PySem.W.nsIn
    rw [hl]
    exact findK fk fv z
  rw [e]
  clear e fk fv hl
  have hd0 := hd
  induction ks generalizing us vs ds with
  | nil => rfl
  | cons k ks ih =>
    cases hr with
    | nil =>
      cases ds with
      | nil => rfl
      | cons d ds => have := hd (fun _ => none) []; cases this
    | cons r rs =>
      cases ds with
      | nil => have := hd (fun _ => none) []; cases this
      | cons d ds =>
        cases hz : z == k with
        | true =>
          simp only [List.zip_cons_cons, List.lookup, hz]
          exact ⟨_, _, rfl, r, fun H ι => by have := hd H ι; cases this; assumption⟩
        | false =>
          simp only [List.zip_cons_cons, List.lookup, hz]
          exact ih rs (fun H ι => by have := hd H ι; cases this; assumption) (fun H ι => by have := hd H ι; cases this; assumption)
/-! ### a local that holds a def -/
structure GFA (P : Program) (w : World) (K : PySem.W.Frag) (mg : Str → Option Value) (base : Heap) (k : Nat) (a : Addr) (n : Nat) (m : Fn) : Prop where
  ex : ∃ fd ps, FnG P w K mg base k a fd ps (spG K n m) ∧ PySem.W.keepIn K (.ref a) = true ∧ Binds K fd ps []
theorem GF.at_ {P : Program} {w : World} {K : PySem.W.Frag} {mg : Str → Option Value} {base : Heap} {j k : Nat} {x : Str} {n : Nat} {m : Fn} {a : Addr} (F : GF P w K mg base j x n m) (h : mg x = some (.ref a)) (hj : j ≤ k) : GFA P w K mg base k a n m := by
  obtain ⟨f, fd, ps, ok, hm, hk, hb⟩ := F.ex
  cases h.symm.trans hm
  exact ⟨fd, ps, ok.mono hj, hk, hb⟩
def mCallL (i n : Nat) (tb : List (Addr × Fn)) (ms : M (List R)) : M R := fun e S => match e[i]? with
  | some (some (.d (.fn a))) => (match tb.lookup a with
    | some f => mCall n f ms e S
    | none => none)
  | _ => none
theorem lookup_mem {α β : Type} [BEq α] [LawfulBEq α] {a : α} {b : β} : ∀ {l : List (α × β)}, l.lookup a = some b → (a, b) ∈ l
  | (x, y) :: l, h => by
    unfold List.lookup at h
    split at h
    · rename_i hx
      cases h
      rw [beq_iff_eq.mp hx]
      exact List.mem_cons_self ..
    · exact List.mem_cons_of_mem _ (lookup_mem h)
theorem ge_callL {X : Cx} {k n : Nat} {i : Nat} {x : Str} {tb : List (Addr × Fn)} {ex : Expr} {es : List Expr} {ms : M (List R)} {p pos : Pos} (F : ∀ q ∈ tb, GFA X.prog X.w X.K X.mg X.base k q.1 n q.2) (hr : Room k X.A) (hgd : X.A.guards = some [])
    (ha : GA X (ex :: es) ms) (hN : X.N[i]? = some x := by rfl) (hv : Vis X.env.scope x := by first | exact Or.inl rfl | exact Or.inr (Or.inl rfl) | exact Or.inr (Or.inr rfl)) (hdb : (x == ("__debug__" : Str)) = false := by decide) (hcd : (x == ("__classdict__" : Str)) = false := by decide)
    (he : starEach (ex :: es) X.env = (false, eval ex X.env) :: starEach es X.env := by rfl) (hpl : (backTo pos (starEach es X.env)).any (·.1) = false := by rfl) : GE X (.Call (.Name x p) (ex :: es) [] pos) (mCallL i n tb ms) := by
  refine ⟨fun pins s σ H Q I q => ?_⟩
  obtain ⟨ι, e, S, r, e', S', R, hm, q⟩ := q
  unfold mCallL at hm
  split at hm
  · rename_i a hea
    split at hm
    · rename_i f hf
      obtain ⟨v, hσ, hv'⟩ := R.sl i _ hea
      have hv2 : RD X.K H ι v (.fn a) := hv'
      cases hv2
      obtain ⟨fd, ps, ok, hk, hb⟩ := (F _ (lookup_mem hf)).ex
      have h : tGA X.K ms σ H fun vs H1 => spG X.K n f vs H1 Q E0 := tG_call ⟨ι, e, S, r, e', S', R, hm, q⟩
      refine wpAny_Call_Name_kw (thn ((pe_var (pos := p) hN hv hdb hcd).run pins s σ H (fun v H1 => v = .ref a ∧ H1 = H) I ⟨.ref a, hσ, rfl, rfl⟩) fun u s1 ⟨v, H1, I1, r1, q1⟩ => ?_)
      obtain ⟨rfl, rfl⟩ := q1
      cases r1
      exact PySem.W.callWith_K (h₀ := X.base) I1.ok.mod.kin hk (thn (ha.run pos pins s1 σ _ _ I1 h) fun us s2 ⟨vs, H2, I2, r, q⟩ => ⟨I2.kIn, ok.enter hr hgd hb .nil pass0 I2 r (by rw [List.append_nil]; exact q)⟩) he hpl
    · cases hm
  · cases hm
/-! ### two defs that call each other: the first by depth, the second from the first -/
theorem rd_tupK {K : PySem.W.Frag} {T : Addr} {its : Array Value} {n : Nat} {sl : Array (Option Value)} {us : List Value} {vs : List V} {ds : List D}
    (hl : K.lookup T = some ⟨.type "tuple", none, .seq its n, sl⟩) (hi : its.toList = us) (hz : us.length ≤ 1000) (hv : Vals vs us) (hd : ∀ H ι, RDs K H ι vs ds) : ∀ H ι, RD K H ι (.ref T) (.tup ds) := fun H ι =>
  .tup (.inr ⟨_, its, n, hl, rfl, rfl, rfl, by
    have e : its.size = us.length := by rw [← hi, Array.length_toList]
    have := line_ge
    omega, by rw [hi]; exact hv⟩) (hd H ι)
theorem vs_ref {a : Addr} {vs : List V} {us : List Value} (h : Vals vs us) : Vals (.ref a :: vs) (.ref a :: us) := .cons (show RelV (.ref a) (.ref a) from rfl) h
theorem vs_int {i : Int} {t : Tok} {vs : List V} {us : List Value} (h : Vals vs us) : Vals (.int i :: vs) (.int i t :: us) := .cons (show RelV (.int i) (.int i t) from ⟨_, rfl⟩) h
theorem vs_nil : Vals [] [] := .nil
end G

set_option Elab.async false
set_option linter.all false
set_option maxRecDepth 100000
set_option maxHeartbeats 4000000
/-! GM: the calculus of GN. -/
namespace G
variable [Wld]
open PySem PySem.Spec PyProof.Rows L2
section
variable {e : En} {S : Sto} {Q : R → En → Sto → Prop}
theorem wp_inT {neg : Bool} {d a : Addr} {tb : List (Str × D)} {z : Str} : Wp (gInT neg d tb (.d (.str z)) (.d (.fn a))) e S Q ↔ a = d ∧ Q (.d (.bl ((tb.lookup z).isSome != neg))) e S := by
  unfold Wp gInT
  by_cases h : a = d
  · simp only [if_pos h]; exact ⟨fun ⟨_, _, _, h1, q⟩ => by cases h1; exact ⟨h, q⟩, fun q => ⟨_, _, _, rfl, q.2⟩⟩
  · simp only [if_neg h]; exact ⟨fun ⟨_, _, _, h1, q⟩ => (nomatch h1), fun q => (h q.1).elim⟩
theorem wp_ixT {d a : Addr} {tb : List (Str × D)} {z : Str} : Wp (gIxT d tb (.d (.fn a)) (.d (.str z))) e S Q ↔ a = d ∧ ∃ x, tb.lookup z = some x ∧ Q (.d x) e S := by
  constructor
  · rintro ⟨r, e1, S1, h, q⟩
    obtain ⟨t, x, h1, h2, h3, h4⟩ := gIxT_eq h
    cases h1; cases h2; cases h4
    exact ⟨rfl, x, h3, q⟩
  · rintro ⟨rfl, x, h, q⟩
    exact ⟨_, _, _, by simp only [gIxT, if_true, h]; rfl, q⟩
theorem wp_callL {i n : Nat} {tb : List (Addr × Fn)} {ms : M (List R)} : Wp (mCallL i n tb ms) e S Q ↔ ∃ a, e[i]? = some (some (.d (.fn a))) ∧ ∃ f, tb.lookup a = some f ∧ Wp (mCall n f ms) e S Q := by
  constructor
  · rintro ⟨r, e1, S1, h, q⟩
    unfold mCallL at h
    split at h
    · rename_i a ha
      split at h
      · rename_i f hf
        exact ⟨a, ha, f, hf, r, e1, S1, h, q⟩
      · cases h
    · cases h
  · rintro ⟨a, ha, f, hf, r, e1, S1, h, q⟩
    exact ⟨r, e1, S1, by unfold mCallL; rw [ha]; simp only [hf]; exact h, q⟩
end
theorem ev6 : type_of% (And.intro @wp_inT (And.intro @wp_ixT @wp_callL)) := And.intro @wp_inT (And.intro @wp_ixT @wp_callL)
end G

set_option Elab.async false
set_option linter.all false
set_option maxRecDepth 1000000
set_option maxHeartbeats 4000000
/-! GD: constants that are tuples of texts, displays of dicts, .get, .extend. -/
namespace G
variable [Wld]
open PySem PySem.Spec PyProof.Rows L2
section
variable {X : Cx} {pos : Pos}
/-- a constant of the module, by its data -/
def CstAt (K : PySem.W.Frag) (mg : Str → Option Value) (x : Str) (d : D) : Prop := ∃ u v, mg x = some u ∧ RelV v u ∧ ∀ H ι, RD K H ι v d
/-! ### {'a': 1, ..} -/
def tPc : List (Str × Int) → List (TE × TE)
  | [] => []
  | (k, i) :: r => (tC (.str k), tC (.int i)) :: tPc r
def mDl (kvs : List (Str × Int)) : M R := pur (.new (.dct (kvs.map fun p => (.inr p.1, .int p.2))))
theorem tPairs_c {σ : SV} {H : Hp} : ∀ {kvs : List (Str × Int)} {Q : List (V × V) → Hp → Prop}, Q (kvs.map fun p => (.str p.1, .int p.2)) H → tPairs (tPc kvs) σ H Q
  | [], Q, h => h
  | (k, i) :: r, Q, h => by
    show tPairs (tPc r) σ H fun ps H3 => Q ((.str k, .int i) :: ps) H3
    exact tPairs_c h
theorem mergeK_nodup : ∀ {more kvs : List (Key × V)}, ((kvs ++ more).map (·.1)).Nodup → mergeK kvs more = kvs ++ more
  | [], kvs, _ => by simp [mergeK]
  | p :: r, kvs, h => by
    have e : putK kvs p.1 p.2 = kvs ++ [p] := by
      unfold putK
      have hk : p.1 ∉ kvs.map (·.1) := by
        intro hm
        rw [List.map_append, List.nodup_append] at h
        exact h.2.2 _ hm _ (by simp) rfl
      rw [if_neg]
      intro ha
      obtain ⟨q, hq, he⟩ := List.any_eq_true.mp ha
      exact hk (List.mem_map.mpr ⟨q, hq, by simpa using he⟩)
    show mergeK (putK kvs p.1 p.2) r = _
    rw [e, mergeK_nodup (by simpa using h)]
    simp
end
section
variable {X : Cx} {pos : Pos}
theorem rk_c {K : PySem.W.Frag} {H : Hp} {ι : List Addr} : ∀ (kvs : List (Str × Int)), RK K H ι (kvs.map fun p => ((.inr p.1 : Key), V.int p.2)) (kvs.map fun p => ((.inr p.1 : Key), D.int p.2))
  | [] => .nil
  | p :: r => .cons ⟨rfl, .int p.2⟩ (rk_c r)
/-! ### d.get(k, x), d.get(k) -/
def gGet (rx ry : R) (z : D) : M R := fun e S => match ry with
  | .d y => (match look rx e S with
    | some (.dct kvs) => (keyOf y).map fun k => (.d ((valD kvs k).getD z), e, S)
    | _ => none)
  | _ => none
def chkD (r : R) : M Unit := fun e S => match look r e S with
  | some (.dct _) => some ((), e, S)
  | _ => none
def mGet1 (mo mk : M R) : M R := bnd mo fun x => bnd (chkD x) fun _ => bnd mk fun y => gGet x y .non
def unD (z : R) : M D := match z with
  | .d z => pur z
  | _ => stk
def mGet2 (mo mk mz : M R) : M R := bnd mo fun x => bnd (chkD x) fun _ => bnd mk fun y => bnd mz fun z => bnd (unD z) fun z => gGet x y z
theorem chkD_eq {r : R} {e : En} {S : Sto} {w : Unit × En × Sto} (h : chkD r e S = some w) : (∃ kvs, look r e S = some (.dct kvs)) ∧ w = ((), e, S) := by
  unfold chkD at h
  split at h
  · cases h; exact ⟨⟨_, by assumption⟩, rfl⟩
  · cases h
variable {o e f : Expr} {mo mk mz : M R} {apos cpos : Pos}
theorem gGet_eq {rx ry : R} {z : D} {e : En} {S : Sto} {w : R × En × Sto} (h : gGet rx ry z e S = some w) : ∃ kvs y k, ry = .d y ∧ look rx e S = some (.dct kvs) ∧ keyOf y = some k ∧ w = (.d ((valD kvs k).getD z), e, S) := by
  unfold gGet at h
  split at h
  · split at h
    · obtain ⟨k, h1, h2⟩ := Option.map_eq_some_iff.mp h
      exact ⟨_, _, k, rfl, by assumption, h1, h2.symm⟩
    · cases h
  · cases h
theorem ge_get2 (hu : X.A.units + 1 < cLine) (ho : GE X o mo) (he : GE X e mk) (hf : GE X f mz) (m : M2 X o "get" apos e f cpos := by exact ⟨rfl, rfl, rfl, rfl⟩) : GE X (.Call (.Attribute o "get" apos) [e, f] [] cpos) (mGet2 mo mk mz) :=
  PE.imp (pe_dget2 hu ho he hf m) fun σ H Q q => by
    obtain ⟨ι, e0, S, r, e', S', R, hm, q⟩ := q
    obtain ⟨x, e1, S1, h1, hm⟩ := bnd_eq hm
    obtain ⟨_, _, _, h0, hm⟩ := bnd_eq hm
    obtain ⟨⟨kvs0, hlk0⟩, hz⟩ := chkD_eq h0
    cases hz
    obtain ⟨y, e2, S2, h2, hm⟩ := bnd_eq hm
    obtain ⟨z, e3, S3, h3, hm⟩ := bnd_eq hm
    obtain ⟨dz, _, _, h4, hm⟩ := bnd_eq hm
    obtain ⟨rfl, hz⟩ : z = .d dz ∧ _ := by
      cases z with
      | d z => cases h4; exact ⟨rfl, trivial⟩
      | _ => cases h4
    cases h4
    refine ⟨ι, e0, S, x, e1, S1, R, h1, fun v H1 ι1 R1 P1 r1 f1 => ?_⟩
    obtain ⟨p, ws, rfl, g1, g2⟩ := R1.lookD r1 hlk0
    refine ⟨p, rfl, .inl ⟨ws, g1⟩, ι1, e1, S1, y, e2, S2, R1, h2, fun vy H2 ι2 R2 P2 r2 _ => ⟨ι2, e2, S2, _, e3, S3, R2, h3, fun vz H3 ι3 R3 P3 r3 _ => ?_⟩⟩
    obtain ⟨kvs, y', k, rfl, hlk, hk, hw⟩ := gGet_eq hm
    cases hw
    obtain ⟨p', ws', ep, g1', g2'⟩ := R3.lookD ((r1.post P2).post P3) hlk
    cases ep
    have r2' : RD X.K H3 ι3 vy y' := r2.post P3
    refine ⟨valV ws' k, .inl ⟨ws', k, g1', keyOf_v r2' hk, rfl⟩, ?_⟩
    refine q _ H3 ι3 R3 ((P1.trans P2).trans P3) ?_ trivial
    show RD X.K H3 ι3 _ _
    cases hv : valD kvs k with
    | none => rw [(g2'.val k).2 hv]; exact r3
    | some d =>
      obtain ⟨z', hz', rz⟩ := (g2'.val k).1 d hv
      rw [hz']; exact rz
theorem ge_get1 (hu : X.A.units + 1 < cLine) (ho : GE X o mo) (he : GE X e mk) (m : M1 X o "get" apos e cpos := by exact ⟨rfl, rfl, rfl, rfl⟩) : GE X (.Call (.Attribute o "get" apos) [e] [] cpos) (mGet1 mo mk) :=
  PE.imp (pe_dget1 hu ho he m) fun σ H Q q => by
    obtain ⟨ι, e0, S, r, e', S', R, hm, q⟩ := q
    obtain ⟨x, e1, S1, h1, hm⟩ := bnd_eq hm
    obtain ⟨_, _, _, h0, hm⟩ := bnd_eq hm
    obtain ⟨⟨kvs0, hlk0⟩, hz⟩ := chkD_eq h0
    cases hz
    obtain ⟨y, e2, S2, h2, hm⟩ := bnd_eq hm
    refine ⟨ι, e0, S, x, e1, S1, R, h1, fun v H1 ι1 R1 P1 r1 f1 => ?_⟩
    obtain ⟨p, ws, rfl, g1, g2⟩ := R1.lookD r1 hlk0
    refine ⟨p, rfl, .inl ⟨ws, g1⟩, ι1, e1, S1, y, e2, S2, R1, h2, fun vy H2 ι2 R2 P2 r2 _ => ?_⟩
    obtain ⟨kvs, y', k, rfl, hlk, hk, hw⟩ := gGet_eq hm
    cases hw
    obtain ⟨p', ws', ep, g1', g2'⟩ := R2.lookD (r1.post P2) hlk
    cases ep
    have r2' : RD X.K H2 ι2 vy y' := r2
    refine ⟨valV ws' k, .inl ⟨ws', k, g1', keyOf_v r2' hk, rfl⟩, ?_⟩
    refine q _ H2 ι2 R2 (P1.trans P2) ?_ trivial
    show RD X.K H2 ι2 _ _
    cases hv : valD kvs k with
    | none => rw [(g2'.val k).2 hv]; exact .non
    | some d =>
      obtain ⟨z', hz', rz⟩ := (g2'.val k).1 d hv
      rw [hz']; exact rz
/-! ### xs.extend(new list) -/
def gExtend (r : R) (rs : List R) : M R := match rs with
  | [.new (.lst zs)] => wrL r fun ds => if ds.length + zs.length ≤ 1000000 then some (.d .non, ds ++ zs) else none
  | _ => stk
end
end G

set_option Elab.async false
set_option linter.all false
set_option maxRecDepth 1000000
set_option maxHeartbeats 4000000
/-! GL: lists that nobody writes, put together. -/
namespace G
variable [Wld]
open PySem PySem.Spec PyProof PyProof.Rows L2
section
variable {X : Cx}
/-- lists, whether locked or not -/
def gAddF (rx ry : R) : M R := fun e S => match look rx e S, look ry e S with
  | some (.lst xs), some (.lst ys) => if xs.length + ys.length ≤ 1000000 then some (.new (.lst (xs ++ ys)), e, S) else none
  | _, _ => none
theorem gAddF_eq {rx ry : R} {e : En} {S : Sto} {z : R × En × Sto} (h : gAddF rx ry e S = some z) : ∃ xs ys, look rx e S = some (.lst xs) ∧ look ry e S = some (.lst ys) ∧ xs.length + ys.length ≤ 1000000 ∧ z = (.new (.lst (xs ++ ys)), e, S) := by
  unfold gAddF at h
  split at h
  · split at h
    · cases h; exact ⟨_, _, by assumption, by assumption, by assumption, rfl⟩
    · cases h
  · cases h
end
/-! ### two defs that call each other, by more than one step -/
theorem GF.recOfS {P : Program} {w : World} {K : PySem.W.Frag} {mg : Str → Option Value} {base : Heap} (s : Nat) {x qual : Str} {st : Stmt} {N ps : List Str} {k : Nat} {body : Fn → M Fl} (D : DF K mg x qual st ps) (Sc : FnScope N ps (defScope st))
    (h : ∀ (n : Nat) (self : Fn), GF P w K mg base (k + (s + 1) * n + 1) x ps.length self → ∀ (f : Addr) (cdv : Value) (A : Around) (outer : List PySem.Env) (sh : Shared) (H : Hp) (vs : List V) (Q : VK) (E : XK), Room (k + (s + 1) * n + s + 1) (A.deeper (envOfC qual (defScope st) sh.heap.objs.size f cdv)) → (A.deeper (envOfC qual (defScope st) sh.heap.objs.size f cdv)).guards = some [] →
      GSs (cxOf CX0 P w K mg base N qual (defScope st) f cdv A outer sh H E).nox (defBody st) (body self)) :
    ∀ n, GF P w K mg base (k + (s + 1) * n + 1) x ps.length (recF (N.length - ps.length) body n) := by
  obtain ⟨f, fd, F, hm, hb⟩ := D.ex
  intro n
  induction n with
  | zero => exact ⟨⟨f, fd, ps, fn_ok (N := N) (body := stk) F Sc fun cdv A outer s H vs Q E hr hgd => gss_never, hm, F.kp, hb⟩⟩
  | succ n ih =>
    have := FnG.mono (fn_ok F Sc (h n _ ih f)) (show k + (s + 1) * n + s + 1 + 1 ≤ k + (s + 1) * (n + 1) + 1 by rw [Nat.mul_add]; omega)
    exact .mk' this hm F.kp hb
/-! ### a, b, .. = a list -/
def mAsgL (n : Nat) (ts : Tgts) (m : M R) : M Fl := bnd m fun r e S => (lstOf r e S).bind fun ds => if ds.length = n then (ts ds e).map fun e' => (.nx, e', S) else none
end G

set_option Elab.async false
set_option linter.all false
set_option maxRecDepth 1000000
set_option maxHeartbeats 4000000
/-! GZ: zip of lists and tuples in any mix. -/
namespace G
variable [Wld]
open PySem PySem.Spec PyProof PyProof.Rows L2
/-- k: a tuple, else a list -/
def SqX (k : Bool) (K : PySem.W.Frag) (H : Hp) (a : Addr) (xs : List V) : Prop := if k = true then SqT K H a xs else SqL K H a xs
def ItX (k : Bool) (h : Heap) (it l : Addr) (i : Nat) : Prop := if k = true then h.IsTupleIter it l i else h.IsListIter it l i
def IsX (k : Bool) (h : Heap) (l : Addr) (its : Array Value) : Prop := if k = true then h.IsTuple l its else h.IsList l its
def ItzX (k1 k2 : Bool) (K : PySem.W.Frag) (a b : Addr) : It :=
  ⟨fun i H => ∃ (xs ys : List V) (x y : V), SqX k1 K H a xs ∧ SqX k2 K H b ys ∧ xs[i]? = some x ∧ ys[i]? = some y,
    fun i H v H' => ∃ T x y, v = .ref T ∧ H T = none ∧ H' = upd H T (.tup [x, y]) ∧ (∀ xs, SqX k1 K H a xs → xs[i]? = some x) ∧ ∀ ys, SqX k2 K H b ys → ys[i]? = some y,
    fun i H => ∃ xs ys : List V, SqX k1 K H a xs ∧ SqX k2 K H b ys ∧ (xs.length ≤ i ∨ ys.length ≤ i)⟩
abbrev begO (k : Bool) (a : Addr) : PySem.Obj := { cls := .type (if k = true then "tuple_iterator" else "list_iterator"), data := .fields #[.ref a, .int 0 0] }
def iZipX (K : PySem.W.Frag) (ta : TA) : TI := fun σ H R => ta σ H fun vs H1 => ∃ a b xs ys k1 k2, vs = [.ref a, .ref b] ∧ SqX k1 K H1 a xs ∧ SqX k2 K H1 b ys ∧ R (ItzX k1 k2 K a b) H1
/-- zip of two of any kind -/
def srcZipX (rs : List R) : M Src := fun e S => match rs with
  | [r1, r2] => (match srcOf r1 e S, srcOf r2 e S with
    | some (s1, _, _), some (s2, _, _) => some (⟨zipD s1.items s2.items, s1.ws ++ s2.ws⟩, e, S)
    | _, _ => none)
  | _ => none
section
variable {X : Cx} {a b : Expr} {ms : M (List R)} {p pos : Pos}
end
end G

set_option Elab.async false
set_option linter.all false
set_option maxRecDepth 1000000
set_option maxHeartbeats 4000000
/-! GI: `x is None` of lists and dicts too. -/
namespace G
variable [Wld]
open PySem PySem.Spec PyProof.Rows L2
def gIsNL (neg : Bool) (rx ry : R) : M R := fun e S => match ry with
  | .d .non => (match rx with
    | .d x => some (.d (.bl (isNon x != neg)), e, S)
    | rx => (look rx e S).map fun _ => (.d (.bl neg), e, S))
  | _ => none
section
variable {X : Cx}
end
end G

set_option Elab.async false
set_option linter.all false
set_option maxRecDepth 1000000
set_option maxHeartbeats 4000000
/-! GJ: list * number. -/
namespace G
variable [Wld]
open PySem PySem.Spec PyProof.Rows L2
def gMulL (rx ry : R) : M R := fun e S => match ry with
  | .d (.int k) => (match look rx e S with
    | some (.lst xs) => if notLst rx && decide (-(2 ^ 63) ≤ k) && decide (k < 2 ^ 63) && decide (xs.length * k.toNat ≤ 1000000) then some (.new (.lst (List.replicate k.toNat xs).flatten), e, S) else none
    | _ => none)
  | _ => none
theorem gMulL_eq {rx ry : R} {e : En} {S : Sto} {z : R × En × Sto} (h : gMulL rx ry e S = some z) : ∃ xs k, look rx e S = some (.lst xs) ∧ ry = .d (.int k) ∧ notLst rx = true ∧ -(2 ^ 63) ≤ k ∧ k < 2 ^ 63 ∧ xs.length * k.toNat ≤ 1000000 ∧ z = (.new (.lst (List.replicate k.toNat xs).flatten), e, S) := by
  unfold gMulL at h
  split at h
  · split at h
    · split at h
      · rename_i hc
        simp only [Bool.and_eq_true, decide_eq_true_eq] at hc
        exact ⟨_, _, by assumption, rfl, hc.1.1.1, hc.1.1.2, hc.1.2, hc.2, (Option.some.inj h).symm⟩
      · cases h
    · cases h
  · cases h
theorem RDs.repN {K : PySem.W.Frag} {H : Hp} {ι : List Addr} {vs : List V} {ds : List D} (h : RDs K H ι vs ds) : ∀ k : Nat, RDs K H ι (List.replicate k vs).flatten (List.replicate k ds).flatten
  | 0 => .nil
  | k + 1 => by
    rw [List.replicate_succ, List.replicate_succ, List.flatten_cons, List.flatten_cons]
    exact h.append (RDs.repN h k)
end G

set_option Elab.async false
set_option linter.all false
set_option maxRecDepth 100000
set_option maxHeartbeats 4000000
/-! GT: the calculus of GD, GL. -/
namespace G
variable [Wld]
open PySem PySem.Spec PyProof.Rows L2
section
variable {e : En} {S : Sto}
theorem wp_asgL {n : Nat} {ts : Tgts} {m : M R} {Q : Fl → En → Sto → Prop} : Wp (mAsgL n ts m) e S Q ↔ Wp m e S fun r e1 S1 => ∃ ds, lstOf r e1 S1 = some ds ∧ ds.length = n ∧ ∃ e2, ts ds e1 = some e2 ∧ Q .nx e2 S1 := by
  unfold mAsgL
  rw [wp_bnd]
  constructor
  · rintro ⟨r, e1, S1, h1, fl, e2, S2, h2, q⟩
    obtain ⟨ds, h3, h4⟩ := Option.bind_eq_some_iff.mp (show (lstOf r e1 S1).bind _ = _ from h2)
    split at h4
    · rename_i hl
      obtain ⟨e3, h5, h6⟩ := Option.map_eq_some_iff.mp h4
      cases h6
      exact ⟨r, e1, _, h1, ds, h3, hl, _, h5, q⟩
    · cases h4
  · rintro ⟨r, e1, S1, h1, ds, h3, hl, e2, h5, q⟩
    exact ⟨r, e1, S1, h1, _, _, _, by show (lstOf r e1 S1).bind _ = _; rw [h3]; simp only [Option.bind_some, hl, if_true, h5, Option.map_some], q⟩
variable {Q : R → En → Sto → Prop}
theorem wp_addF {rx ry : R} : Wp (gAddF rx ry) e S Q ↔ ∃ xs, look rx e S = some (.lst xs) ∧ ∃ ys, look ry e S = some (.lst ys) ∧ xs.length + ys.length ≤ 1000000 ∧ Q (.new (.lst (xs ++ ys))) e S := by
  constructor
  · rintro ⟨r, e1, S1, h, q⟩
    obtain ⟨xs, ys, h1, h2, h3, h4⟩ := gAddF_eq h
    cases h4
    exact ⟨xs, h1, ys, h2, h3, q⟩
  · rintro ⟨xs, h1, ys, h2, h3, q⟩
    exact ⟨_, _, _, by unfold gAddF; rw [h1, h2]; simp only [h3, if_true], q⟩
theorem wp_mDl {kvs : List (Str × Int)} : Wp (mDl kvs) e S Q ↔ Q (.new (.dct (kvs.map fun p => (.inr p.1, .int p.2)))) e S := wp_pur
theorem wp_get {rx : R} {y z : D} : Wp (gGet rx (.d y) z) e S Q ↔ ∃ kvs, look rx e S = some (.dct kvs) ∧ ∃ k, keyOf y = some k ∧ Q (.d ((valD kvs k).getD z)) e S := by
  constructor
  · rintro ⟨r, e1, S1, h, q⟩
    obtain ⟨kvs, y', k, h1, h2, h3, h4⟩ := gGet_eq h
    cases h1; cases h4
    exact ⟨kvs, h2, k, h3, q⟩
  · rintro ⟨kvs, h2, k, h3, q⟩
    exact ⟨_, _, _, by unfold gGet; simp only [h2, h3, Option.map_some], q⟩
theorem wp_chkD {rx : R} {Q : Unit → En → Sto → Prop} : Wp (chkD rx) e S Q ↔ ∃ kvs, look rx e S = some (.dct kvs) ∧ Q () e S := by
  constructor
  · rintro ⟨r, e1, S1, h, q⟩
    obtain ⟨⟨kvs, h1⟩, h2⟩ := chkD_eq h
    cases h2
    exact ⟨kvs, h1, q⟩
  · rintro ⟨kvs, h1, q⟩
    exact ⟨_, _, _, by unfold chkD; rw [h1], q⟩
theorem wp_unD {z : D} {Q : D → En → Sto → Prop} : Wp (unD (.d z)) e S Q ↔ Q z e S := wp_pur
theorem wp_extend {r : R} {zs : List D} : Wp (gExtend r [.new (.lst zs)]) e S Q ↔ ∃ ds, look r e S = some (.lst ds) ∧ isW r = true ∧ ds.length + zs.length ≤ 1000000 ∧ Q (.d .non) (putE r (.lst (ds ++ zs)) e) (putS r (.lst (ds ++ zs)) S) := by
  constructor
  · rintro ⟨a, e', S', h, q⟩
    obtain ⟨ds, y, es, h1, h2, h3, h4⟩ := wrL_eq (show wrL r _ e S = _ from h)
    cases h4
    split at h3
    · cases h3; exact ⟨ds, h1, h2, by assumption, q⟩
    · cases h3
  · rintro ⟨ds, h1, h2, h3, q⟩
    exact (wp_wrL h1 h2 (by rw [if_pos h3])).mpr q
end
theorem wp_isNL_d {neg : Bool} {x : D} {e : En} {S : Sto} {Q : R → En → Sto → Prop} : Wp (gIsNL neg (.d x) (.d .non)) e S Q ↔ Q (.d (.bl (isNon x != neg))) e S := wp_some rfl
theorem wp_isNL_new {neg : Bool} {o : O} {e : En} {S : Sto} {Q : R → En → Sto → Prop} : Wp (gIsNL neg (.new o) (.d .non)) e S Q ↔ Q (.d (.bl neg)) e S := wp_some rfl
theorem wp_isNL_brw {neg : Bool} {o : O} {e : En} {S : Sto} {Q : R → En → Sto → Prop} : Wp (gIsNL neg (.brw o) (.d .non)) e S Q ↔ Q (.d (.bl neg)) e S := wp_some rfl
theorem wp_isNL_loc {neg : Bool} {i : Nat} {e : En} {S : Sto} {Q : R → En → Sto → Prop} : Wp (gIsNL neg (.loc i) (.d .non)) e S Q ↔ ∃ o, look (.loc i) e S = some o ∧ Q (.d (.bl neg)) e S := by
  constructor
  · rintro ⟨r, e1, S1, h, q⟩
    obtain ⟨o, h1, h2⟩ := Option.map_eq_some_iff.mp (show (look (.loc i) e S).map (fun _ => (R.d (.bl neg), e, S)) = _ from h)
    cases h2
    exact ⟨o, h1, q⟩
  · rintro ⟨o, h1, q⟩
    exact ⟨_, _, _, by show (look (.loc i) e S).map (fun _ => (R.d (.bl neg), e, S)) = _; rw [h1]; rfl, q⟩
theorem wp_mulL {rx : R} {k : Int} {e : En} {S : Sto} {Q : R → En → Sto → Prop} : Wp (gMulL rx (.d (.int k))) e S Q ↔ ∃ xs, look rx e S = some (.lst xs) ∧ notLst rx = true ∧ -(2 ^ 63) ≤ k ∧ k < 2 ^ 63 ∧ xs.length * k.toNat ≤ 1000000 ∧ Q (.new (.lst (List.replicate k.toNat xs).flatten)) e S := by
  constructor
  · rintro ⟨r, e1, S1, h, q⟩
    obtain ⟨xs, k', h1, h2, h3, h4, h5, h6, h7⟩ := gMulL_eq h
    cases h2; cases h7
    exact ⟨xs, h1, h3, h4, h5, h6, q⟩
  · rintro ⟨xs, h1, h2, h3, h4, h5, q⟩
    exact ⟨_, _, _, by unfold gMulL; simp only [h1, h2, decide_eq_true h3, decide_eq_true h4, decide_eq_true h5, Bool.and_self, if_true], q⟩
theorem notLst_new {o : O} : notLst (.new o) = true := rfl
theorem notLst_loc {i : Nat} : notLst (.loc i) = true := rfl
theorem notLst_brw {o : O} : notLst (.brw o) = true := rfl
theorem ev7 : type_of% (And.intro @wp_isNL_d (And.intro @wp_isNL_new (And.intro @wp_isNL_brw (And.intro @wp_isNL_loc (And.intro @wp_asgL (And.intro @wp_addF (And.intro @wp_mDl (And.intro @wp_get (And.intro @wp_chkD (And.intro @wp_extend (And.intro @wp_mulL (And.intro @notLst_new (And.intro @notLst_loc (And.intro @notLst_brw @wp_unD)))))))))))))) := (And.intro @wp_isNL_d (And.intro @wp_isNL_new (And.intro @wp_isNL_brw (And.intro @wp_isNL_loc (And.intro @wp_asgL (And.intro @wp_addF (And.intro @wp_mDl (And.intro @wp_get (And.intro @wp_chkD (And.intro @wp_extend (And.intro @wp_mulL (And.intro @notLst_new (And.intro @notLst_loc (And.intro @notLst_brw @wp_unD))))))))))))))
end G

set_option Elab.async false
set_option linter.all false
set_option maxRecDepth 1000000
set_option maxHeartbeats 4000000
/-! GY: sorted(xs, key=f), where an invariant leads over f's calls. -/
namespace G
variable [Wld]
open PySem PySem.Calls PyProof.Rows PySem.W
/-- a list or a tuple of these items -/
def SeqI (h : Heap) (l : Addr) (its : Array Value) : Prop := h.IsList l its ∨ IsTup h l its
section
variable {prog : Program} {w : World} {A : Around} {E : Value → Shared → Prop} {s : Shared}
end
section
variable {prog : Program} {w : World} {A : Around} {E : Value → Shared → Prop} {s : Shared}
/-- all stays but a and c -/
def But2 (a c : Addr) (h g : Heap) : Prop := ∃ h1, Heap.SameBut c h h1 ∧ (∃ e, h1.get? c = some (seqObj "list" #[] e)) ∧ Heap.SameBut a h1 g
theorem srt_tail {st : SortSt} {P : PySem.Fin → Shared → Prop} {a c : Addr} {rev : Bool} {kv : Array Value} {ec ea : Nat} {res : List Value} (hc : s.heap.get? c = some (seqObj "list" kv ec)) (ha : s.heap.get? a = some (seqObj "list" #[] ea)) (ca : c ≠ a)
    (z1 : kv.size ≤ sizeLine) (z2 : res.length ≤ sizeLine) (nf : failedOf st = none) (e : (if rev = true then ((arrOf st).map (·.2)).reverse else (arrOf st).map (·.2)) = res.toArray)
    (fin : ∀ g tk n, But2 a c s.heap g → g.get? a = some (seqObj "list" res.toArray n) → P (.done (.ret .none)) { s with heap := g, toks := tk }) : wpAny (model prog w) A (ksk_tail a rev ea (.ref c) st) P E s := by
  have u1 := Heap.SameBut.update s.heap c (PySem.Obj.mapSeq fun _ => #[])
  have ha1 : (s.heap.update c (PySem.Obj.mapSeq fun _ => #[])).get? a = some (seqObj "list" #[] ea) := by rw [u1.2 a (Ne.symm ca)]; exact ha
  have u2 := Heap.SameBut.update (s.heap.update c (PySem.Obj.mapSeq fun _ => #[])) a (PySem.Obj.mapSeq fun _ => res.toArray)
  have got := get?_update_seq ha1 fun _ => res.toArray
  unfold ksk_tail
  dsimp only
  rw [e]
  refine wpAny_bind (listUpdate_at hc rfl (wpAny_bind (wpAny_letGo (wpAny_bind (seqEpoch_at ha1 rfl (wpAny_bind (listUpdate_at ha1 rfl ?_ (Nat.zero_le _) ?_)))))) z1 (Nat.zero_le _))
  · rw [nf]
    simp only [bne_self_eq_false, Bool.false_eq_true, if_false]
    exact wpAny_pure (fin _ _ _ ⟨_, u1, ⟨_, get?_update_seq hc fun _ => #[]⟩, u2⟩ got)
  · rw [List.size_toArray]; exact Nat.le_succ_of_le z2
theorem srt_end {κ : PyProof.Rows.KeyKind} {P : PySem.Fin → Shared → Prop} {a c : Addr} {rev : Bool} {kv : Array Value} {xs : List Value} {ec ea : Nat} (hc : s.heap.get? c = some (seqObj "list" kv ec)) (ha : s.heap.get? a = some (seqObj "list" #[] ea)) (ca : c ≠ a)
    (S : SortsAt prog w A s κ kv.toList) (zk : kv.size = xs.length) (zx : xs.length ≤ sizeLine)
    (fin : ∀ g tk n, But2 a c s.heap g → g.get? a = some (seqObj "list" (sortVals κ rev kv.toList xs).toArray n) → P (.done (.ret .none)) { s with heap := g, toks := tk }) :
    wpAny (model prog w) A (ksk_end a rev xs.toArray ea (.ref c) kv) P E s := by
  obtain ⟨kd, lt, kk⟩ := S.kind
  have zl : kv.toList.length = xs.length := by rw [Array.length_toList, zk]
  have ko : PyProof.Rows.KeysOf κ (kv.zip xs.toArray) := keysOf_zip S.keys
  have zo : (sortVals κ rev kv.toList xs).length = xs.length := sortVals_length rev zl
  obtain ⟨ar, har⟩ : ∃ ar, ar = if rev = true then (kv.zip xs.toArray).reverse else kv.zip xs.toArray := ⟨_, rfl⟩
  have hp : ar.Perm (kv.zip xs.toArray) := by
    rw [har]
    cases rev with
    | false => simp
    | true =>
      rw [if_pos rfl, Array.perm_iff_toList_perm, Array.toList_reverse]
      exact List.reverse_perm _
  have hs : ar.size = xs.length := by rw [hp.size_eq]; simp [zk]
  have out : ∀ t : SortSt, (arrOf t).Perm ar → SortedToK κ (arrOf t) ar.size → Stable κ (arrOf t) ar → (if rev = true then ((arrOf t).map (·.2)).reverse else (arrOf t).map (·.2)) = (sortVals κ rev kv.toList xs).toArray := fun t t1 t2 t3 => by
    have := sort_out (rev := rev) (keys := kv) (items := xs.toArray) (xs := arrOf t) (κ := κ) ko (by rw [← har]; exact t1) (by rw [← har]; exact t2) (by rw [← har]; exact t3)
    have q := congrArg List.toArray this
    rw [Array.toArray_toList] at q
    exact q
  have skip : ∀ {m : Sem PySem.Fin}, wpAny (model prog w) A m P E s → wpAny (model prog w) A (if rev = true then (do let _ ← rule "list.sort.reverse"; m) else m) P E s := fun hm => by
    cases rev with
    | false => rw [if_neg (by decide)]; exact hm
    | true => rw [if_pos rfl]; exact wpAny_bind (wpAny_rule hm)
  unfold ksk_end
  dsimp only
  refine skip ?_
  rw [← har]
  have z2 : kv.size ≤ sizeLine := by rw [zk]; exact zx
  have z3 : (sortVals κ rev kv.toList xs).length ≤ sizeLine := by rw [zo]; exact zx
  by_cases few : xs.toArray.size < 2
  · rw [if_pos few, if_pos few]
    refine wpAny_bind (wpAny_pure ?_)
    rw [StateT.run_pure]
    refine wpAny_bind (wpAny_pure (srt_tail (st := SortSt.mk' general' ar #[] 7 none) hc ha ca z2 z3 rfl (out _ (Array.Perm.refl _) (fun i j ij jn => ?_) (Stable.refl _)) fin))
    rw [List.size_toArray] at few
    rw [hs] at jn
    obtain rfl : i = j := by omega
    exact KeyOrd.kle_refl _
  · rw [if_neg few, if_neg few]
    rw [List.size_toArray] at few
    refine wpAny_bind (kk (by omega) _ (wpAny_bind (wpAny_mono (H.wpS_sortRunsSt (κ := κ) (kd := kd) (a₀ := ar) (st := SortSt.mk' kd ar #[] 7 none)
      (Q := fun _ t => failedOf t = none ∧ (if rev = true then ((arrOf t).map (·.2)).reverse else (arrOf t).map (·.2)) = (sortVals κ rev kv.toList xs).toArray)
      lt (ko.perm hp) ⟨Array.Perm.refl _, rfl, rfl⟩ rfl (Stable.refl _) (by omega) fun t t1 t2 t3 t4 => ⟨t2, out t t1 t3 t4⟩) (fun r t hr => ?_) fun _ _ q => q)))
    obtain ⟨⟨⟩, t'⟩ := r
    obtain ⟨rfl, q1, q2⟩ := hr
    exact srt_tail hc ha ca z2 z3 q1 q2 fin
/-- what leads over the calls of f: J n ks: n items are asked, their keys are ks; a, c: the list that is sorted, the keys' list -/
structure Leads (prog : Program) (w : World) (A : Around) (f : Value) (xs : List Value) (kz : List PyData) (a c : Addr) (J : Nat → List Value → Shared → Prop) : Prop where
  turn : ∀ (i : Nat) (x : Value) (ks : List Value) (t : Shared) (kv : Array Value) (ec ea : Nat) (E : Value → Shared → Prop), xs[i]? = some x → J i ks t → t.heap.get? c = some (seqObj "list" kv ec) → t.heap.get? a = some (seqObj "list" #[] ea) →
    wpAny (model prog w) A (call f [x]) (fun u t' => J (i + 1) (ks ++ [u]) t' ∧ t'.heap.get? c = some (seqObj "list" kv ec) ∧ t'.heap.get? a = some (seqObj "list" #[] ea)) E t
  store : ∀ (i : Nat) (ks : List Value) (t : Shared) (kv : Array Value) (ec : Nat) (g : Heap), J i ks t → t.heap.get? c = some (seqObj "list" kv ec) → Heap.SameBut c t.heap g → (∃ kv' ec', g.get? c = some (seqObj "list" kv' ec')) → J i ks { t with heap := g }
  read : ∀ (ks : List Value) (t : Shared), J xs.length ks t → EachIs (fun v k => ∃ as, Reads t.heap v k as) ks kz
theorem srt_rest {P : PySem.Fin → Shared → Prop} {a c : Addr} {rev : Bool} {f : Value} {xs : List Value} {kz : List PyData} {ea : Nat} {J : Nat → List Value → Shared → Prop} (L : Leads prog w A f xs kz a c J) (h0 : J 0 [] s)
    (hc : s.heap.get? c = some (seqObj "list" #[] 0)) (ha : s.heap.get? a = some (seqObj "list" #[] ea)) (ca : c ≠ a) (zk : kz.length = xs.length) (zx : xs.length ≤ sizeLine) (al : AllAlike kz) (so : Sortable kz) (room : ∀ d, d ∈ kz → A.units + d.depth < cLine)
    (fin : ∀ ks t, J xs.length ks t → ∀ g tk n out, But2 a c t.heap g → g.get? a = some (seqObj "list" (List.toArray out) n) → KeyedOut rev kz xs out → P (.done (.ret .none)) { t with heap := g, toks := tk }) :
    wpAny (model prog w) A (ksk_rest a f rev xs.toArray ea (.ref c)) P E s := by
  unfold ksk_rest
  refine wpAny_bind (wpAny_rule ?_)
  rw [List.forIn_toArray]
  refine wpAny_bind (ksk_fold (fun i t => ∃ (kv : Array Value) (ec : Nat), J i kv.toList t ∧ t.heap.get? c = some (seqObj "list" kv ec) ∧ t.heap.get? a = some (seqObj "list" #[] ea) ∧ kv.size = i) xs 0 s ⟨#[], 0, h0, hc, ha, rfl⟩ ?_ ?_)
  · rintro j x t hx ⟨kv, ec, hJ, gc, ga, zs⟩
    rw [Nat.zero_add] at hJ zs ⊢
    have hj : j < xs.length := (List.getElem?_eq_some_iff.mp hx).1
    refine wpAny_bind (wpAny_attempt (wpAny_mono (L.turn j x kv.toList t kv ec ea _ hx hJ gc ga) (fun u t' ht => ?_) fun _ _ q => q))
    obtain ⟨hJ', gc', ga'⟩ := ht
    dsimp only
    have same := Heap.SameBut.update t'.heap c (PySem.Obj.mapSeq (·.push u))
    have got := get?_update_seq gc' (·.push u)
    refine wpAny_bind (listUpdate_at gc' rfl (wpAny_pure ⟨rfl, kv.push u, _, ?_, got, ?_, by simp [zs]⟩) (by omega) (by rw [Array.size_push]; omega))
    · rw [Array.toList_push]
      exact L.store (j + 1) _ t' kv ec _ hJ' gc' same ⟨_, _, got⟩
    · rw [same.2 a (Ne.symm ca)]; exact ga'
  · rintro t ⟨kv, ec, hJ, gc, ga, zs⟩
    rw [Nat.zero_add] at hJ zs
    have rd := L.read _ t hJ
    refine wpAny_bind (listItems_at gc rfl ?_)
    exact srt_end (κ := dataKind t.heap kz) gc ga ca (SortsAt.data rd al so room) zs zx fun g tk n b2 got => fin _ t hJ g tk n _ b2 got ⟨t.heap, kv.toList, al, rfl, rd⟩
theorem srt_tree {P : PySem.Fin → Shared → Prop} {a : Addr} {rev : Bool} {f : Value} {xs : List Value} {n : Nat} {kz : List PyData} {J : Nat → List Value → Shared → Prop} (ho : s.heap.get? a = some (seqObj "list" xs.toArray n))
    (L : Leads prog w A f xs kz a (s.heap.objs.size + 1) J) (h0 : ∀ g tk ea, (∀ b o, b ≠ a → s.heap.get? b = some o → g.get? b = some o) → g.get? a = some (seqObj "list" #[] ea) → g.get? (s.heap.objs.size + 1) = some (seqObj "list" #[] 0) → J 0 [] { s with heap := g, toks := tk })
    (zk : kz.length = xs.length) (zx : xs.length ≤ sizeLine) (al : AllAlike kz) (so : Sortable kz) (room : ∀ d, d ∈ kz → A.units + d.depth < cLine)
    (fin : ∀ ks t, J xs.length ks t → ∀ g tk n out, But2 a (s.heap.objs.size + 1) t.heap g → g.get? a = some (seqObj "list" (List.toArray out) n) → KeyedOut rev kz xs out → P (.done (.ret .none)) { t with heap := g, toks := tk }) :
    wpAny (model prog w) A (ksk_tree a f rev) P E s := by
  have la : a < s.heap.objs.size := Heap.lt_size ho
  have g1 := get?_update_seq ho fun _ => (#[] : Array Value)
  have sz : ((s.heap.update a (PySem.Obj.mapSeq fun _ => (#[] : Array Value))).push (seqObj "tuple" xs.toArray 0)).objs.size = s.heap.objs.size + 1 := by rw [size_push', Heap.size_update]
  unfold ksk_tree
  refine wpAny_bind (listItems_at ho rfl (wpAny_bind (listUpdate_at ho rfl (wpAny_bind (seqEpoch_at g1 rfl (wpAny_bind (wpAny_newTuple (wpAny_bind (wpAny_newList (wpAny_holding ?_) (Nat.zero_le _))) (by show xs.length ≤ _; exact zx))))) (by rw [List.size_toArray]; exact zx) (Nat.zero_le _))))
  rw [sz]
  have gc := Heap.get?_push_size ((s.heap.update a (PySem.Obj.mapSeq fun _ => (#[] : Array Value))).push (seqObj "tuple" xs.toArray 0)) (o := seqObj "list" #[] 0) rfl
  rw [sz] at gc
  have ga := Heap.get?_push_of_some (seqObj "list" #[] 0) (Heap.get?_push_of_some (seqObj "tuple" xs.toArray 0) g1)
  exact srt_rest (c := s.heap.objs.size + 1) L (h0 _ _ _ (fun b o hb e => sortingHeap_old hb e) ga gc) gc ga (Nat.ne_of_gt (Nat.lt_succ_of_lt la)) zk zx al so room fin
end
end G

set_option Elab.async false
set_option linter.all false
set_option maxRecDepth 1000000
set_option maxHeartbeats 4000000
/-! GK: sorted(xs, key=f), f a def of the text. -/
namespace G
variable [Wld]
open PySem PySem.Spec PyProof.Rows L2
mutual
/-- data as a key -/
def kyr : D → Option PyData
  | .non => some .none
  | .bl b => some (.bool b)
  | .int i => some (.int i)
  | .str x => some (.str x)
  | .tup ds => (kyrs ds).map .tuple
  | .lst ds => (kyrs ds).map .list
  | .dic _ _ => none
  | .ref _ => none
  | .fn _ => none
  | .exc _ _ _ => none
def kyrs : List D → Option (List PyData)
  | [] => some []
  | d :: ds => match kyr d, kyrs ds with
    | some p, some ps => some (p :: ps)
    | _, _ => none
end
theorem kyrs_cons {d : D} {ds : List D} {qs : List PyData} (h : kyrs (d :: ds) = some qs) : ∃ p ps, kyr d = some p ∧ kyrs ds = some ps ∧ qs = p :: ps := by
  unfold kyrs at h
  split at h
  · cases h; exact ⟨_, _, by assumption, by assumption, rfl⟩
  · cases h
section
variable {H : Hp} {ι : List Addr} {X : Cx} {pins : List (Addr × PySem.Obj)} {σ : SV} {s : Shared}
mutual
theorem RD.reads (I : Inv X pins σ H s) : ∀ (d : D) (v : V) (u : Value) (p : PyData), RD X.K H ι v d → RelV v u → kyr d = some p → ∃ as, Reads s.heap u p as
  | .non, _, _, _, h, r, e => by cases h; cases r; cases e; exact ⟨_, .none⟩
  | .bl b, _, _, _, h, r, e => by cases h; cases r; cases e; exact ⟨_, .bool b⟩
  | .int i, _, _, _, h, r, e => by cases h; obtain ⟨t, rfl⟩ := r; cases e; exact ⟨_, .int i t⟩
  | .str x, _, _, _, h, r, e => by cases h; obtain ⟨t, rfl⟩ := r; cases e; exact ⟨_, .str x t⟩
  | .tup ds, _, _, _, h, r, e => by
    obtain ⟨ps, e1, e2⟩ := Option.map_eq_some_iff.mp (show (kyrs ds).map PyData.tuple = some _ from e)
    subst e2
    cases h with | tup h1 h2 =>
    cases r
    obtain ⟨its, rv, ⟨o, g, c, n, dd⟩, _⟩ := I.tuple h1.sq
    obtain ⟨as, q⟩ := RDs.reads I ds _ _ _ h2 rv e1
    exact ⟨_, .tuple g c dd q⟩
  | .lst ds, _, _, _, h, r, e => by
    obtain ⟨ps, e1, e2⟩ := Option.map_eq_some_iff.mp (show (kyrs ds).map PyData.list = some _ from e)
    subst e2
    cases h with | lst h1 h2 =>
    cases r
    obtain ⟨its, rv, t, _⟩ := I.list h1.sq
    obtain ⟨o, g, c, n, dd⟩ := t.isList
    obtain ⟨as, q⟩ := RDs.reads I ds _ _ _ h2 rv e1
    exact ⟨_, .list g c dd q⟩
  | .dic _ _, _, _, _, _, _, e => by cases e
  | .ref _, _, _, _, _, _, e => by cases e
  | .fn _, _, _, _, _, _, e => by cases e
theorem RDs.reads (I : Inv X pins σ H s) : ∀ (ds : List D) (vs : List V) (us : List Value) (ps : List PyData), RDs X.K H ι vs ds → Vals vs us → kyrs ds = some ps → ∃ as, ReadsAll s.heap us ps as
  | [], _, _, _, h, r, e => by cases h; cases r; cases e; exact ⟨_, .nil⟩
  | d :: ds, _, _, _, h, r, e => by
    obtain ⟨p, ps, e1, e2, rfl⟩ := kyrs_cons e
    cases h with | cons h1 h2 =>
    cases r with | cons r1 r2 =>
    obtain ⟨as, q1⟩ := RD.reads I d _ _ p h1 r1 e1
    obtain ⟨bs, q2⟩ := RDs.reads I ds _ _ ps h2 r2 e2
    exact ⟨_, .cons q1 q2⟩
end
end
/-- what a call gave, as it stands behind others -/
def RKy (K : PySem.W.Frag) (H : Hp) (ι : List Addr) (v : V) : Rt → Prop
  | .d x => RD K H ι v x
  | .new o => ∃ a, v = .ref a ∧ RO K H ι a o ∧ a ∉ ι
theorem RKy.post {K : PySem.W.Frag} {H H' : Hp} {ι ι' : List Addr} {v : V} {r : Rt} (h : RKy K H ι v r) (P : PostC H ι H' ι') : RKy K H' ι' v r := by
  cases r with
  | d x => exact RD.mono P.stay P.pre _ _ h
  | new o =>
    obtain ⟨a, e, ro, n⟩ := h
    obtain ⟨u, hu, _⟩ := ro.there
    exact ⟨a, e, ro.mono P.stay P.pre fun u' hu' => (P.keep a u' hu' n).1, (P.keep a u hu n).2⟩
def rtKey : Rt → Option PyData
  | .d x => kyr x
  | .new (.lst ds) => (kyrs ds).map .list
  | .new (.dct _) => none
  | .new (.kd _) => none
  | .new (.tab _) => none
  | .new (.ins _ _ _) => none
  | .new (.kx _) => none
theorem RKy.reads {H : Hp} {ι : List Addr} {X : Cx} {pins : List (Addr × PySem.Obj)} {σ : SV} {s : Shared} (I : Inv X pins σ H s) {v : V} {u : Value} {r : Rt} {p : PyData} (h : RKy X.K H ι v r) (rv : RelV v u) (e : rtKey r = some p) : ∃ as, Reads s.heap u p as := by
  cases r with
  | d x => exact RD.reads I x v u p h rv e
  | new o =>
    cases o with
    | dct kvs => cases e
    | kd kvs => cases e
    | tab q => cases e
    | ins _ _ _ => cases e
    | kx _ => cases e
    | lst ds =>
      obtain ⟨ps, e1, e2⟩ := Option.map_eq_some_iff.mp (show (kyrs ds).map PyData.list = some p from e)
      subst e2
      obtain ⟨a, rfl, ⟨xs, h1, h2⟩, _⟩ := h
      cases rv
      obtain ⟨its, rr, t, _⟩ := I.list (.inl (.inl h1))
      obtain ⟨o, g, c, n, dd⟩ := t.isList
      obtain ⟨as, q⟩ := RDs.reads I ds _ _ _ h2 rr e1
      exact ⟨_, .list g c dd q⟩
end G

set_option Elab.async false
set_option linter.all false
set_option maxRecDepth 1000000
set_option maxHeartbeats 4000000
/-! GA: sorted(xs, key=f), the rule. -/
namespace G
variable [Wld]
open PySem PySem.Spec PyProof.Rows PySem.W L2
theorem exa_ok {P : Program} {w : World} {H : Hp} {h : Heap} {a : Addr} {o : PySem.Obj} (e : h.get? a = some o) : ObjOk P w H h a (exa a o) := ⟨e, ⟨o, e⟩, fun _ _ e1 k => k _ e1⟩
section
variable {X : Cx} {pins : List (Addr × PySem.Obj)} {σ : SV} {H : Hp} {s : Shared}
end
section
variable {K : PySem.W.Frag} {H H' : Hp} {ι ι' : List Addr} {S : Sto}
theorem RelS.rel (R : RelS K H ι S) : Rel K H ι [] [] S := ⟨rfl, fun i s h => by simp at h, R.ilen, R.st, R.nd, fun i o a h => by simp at h, fun i o a h => by simp at h⟩
theorem RelS.notin (R : RelS K H ι S) {a : Addr} (h : ∀ o : O, ¬ RO K H ι a o) : a ∉ ι := fun z => by
  obtain ⟨n, hn⟩ := List.getElem?_of_mem z
  have hlt := (List.getElem?_eq_some_iff.mp hn).1
  rw [R.ilen] at hlt
  exact h _ (R.st n _ a (List.getElem?_eq_getElem hlt) hn)
theorem ro_exa {a : Addr} {vs : Array Value} {n : Nat} (h : H a = some (exa a (seqObj "list" vs n))) {g : Heap} (hg : g.get? a = some (seqObj "list" vs n)) (u : O) : ¬ RO K H ι a u := fun r => by
  cases u with
  | lst ds => obtain ⟨xs, h1, _⟩ := r; rw [h] at h1; cases h1
  | dct kvs => obtain ⟨xs, h1, _⟩ := r; rw [h] at h1; cases h1
  | tab q => obtain ⟨_, ps, h1, _⟩ := r; rw [h] at h1; cases h1
  | ins c ns ds => obtain ⟨dx, xs, h1, _⟩ := r; rw [h] at h1; cases h1
  | kx kvs => obtain ⟨o, ws, h1, _⟩ := r; rw [h] at h1; cases h1
  | kd kvs =>
    obtain ⟨o', es, ep, xs, k⟩ := r
    have e1 := HO.ext.inj (Option.some.inj (h.symm.trans k.at_))
    have e2 : g.get? a = some o' := (congrFun e1 g).mp hg
    rw [hg] at e2
    obtain rfl := Option.some.inj e2
    exact absurd k.ex.1 (by simp [seqObj])
theorem lmu_seq {a : Addr} {vs : Array Value} {n : Nat} : ¬ LmU a (exa a (seqObj "list" vs n)) := (exa_ns (fun _ z => by cases z) (fun z => by cases z) (fun _ z => by cases z) (fun _ z => by cases z)).2.2.2
theorem stay_exa {a : Addr} {o : PySem.Obj} (h : H a = some (exa a o)) (u : HO) (hd : ∀ vs, o.data ≠ .fields vs := by intro vs z; cases z) (hf : o.data ≠ .freed := by intro z; cases z) (hcl : ∀ v, o.data ≠ .cell v := by intro v z; cases z) (hfn : ∀ fd, o.data ≠ .func fd := by intro v z; cases z) (hu : ¬ LmU a u := by first | exact lmu_lst | exact lmu_seq | assumption) : Stay H (upd H a u) := Stay.mut h (fun _ z => nomatch z) (fun _ _ z => nomatch z) (exa_ns hd hf hcl hfn) hu
theorem RelS.upd (R : RelS K H ι S) {a : Addr} {vs : Array Value} {n : Nat} (h : H a = some (exa a (seqObj "list" vs n))) {g : Heap} (hg : g.get? a = some (seqObj "list" vs n)) (u : HO) (hu : ¬ LmU a u := by first | exact lmu_lst | exact lmu_seq) : RelS K (upd H a u) ι S :=
  (R.rel.other (u := u) (stay_exa h u) (R.notin (ro_exa h hg)) fun ⟨i, s, h1, _⟩ => by simp at h1).s
theorem PostC.fresh {H0 : Hp} {ι0 : List Addr} (P : PostC H0 ι0 H ι) {a : Addr} {u : HO} (f : H0 a = none) (st : Stay H (upd H a u)) : PostC H0 ι0 (upd H a u) ι :=
  ⟨P.pre, P.stay.trans st, fun b x h => by rw [upd_ne (ne_of_none h f)]; exact P.dom b x h, fun b x h1 h2 => by rw [upd_ne (ne_of_none h1 f)]; exact P.keep b x h1 h2⟩
theorem PostC.trans {H0 H1 H2 : Hp} {ι0 ι1 ι2 : List Addr} (a : PostC H0 ι0 H1 ι1) (b : PostC H1 ι1 H2 ι2) : PostC H0 ι0 H2 ι2 := by
  obtain ⟨⟨l, rfl⟩, s, d, k⟩ := a
  obtain ⟨⟨l', rfl⟩, s', d', k'⟩ := b
  exact ⟨⟨l ++ l', by simp⟩, s.trans s', fun x o h => let ⟨o1, h1⟩ := d x o h; d' x o1 h1, fun x o h1 h2 => let ⟨q1, q2⟩ := k x o h1 h2; k' x o q1 q2⟩
theorem PostC.new {a : Addr} {u : HO} (f : H a = none) : PostC H ι (upd H a u) ι :=
  ⟨⟨[], by simp⟩, Stay.new f, fun b x h => ⟨x, by rw [upd_ne (ne_of_none h f)]; exact h⟩, fun b x h1 h2 => ⟨by rw [upd_ne (ne_of_none h1 f)]; exact h1, h2⟩⟩
theorem RKy.upd {v : V} {r : Rt} {a : Addr} {vs : Array Value} {n : Nat} (k : RKy K H ι v r) (h : H a = some (exa a (seqObj "list" vs n))) {g : Heap} (hg : g.get? a = some (seqObj "list" vs n)) (u : HO) (hu : ¬ LmU a u := by first | exact lmu_lst | exact lmu_seq) : RKy K (upd H a u) ι v r := by
  cases r with
  | d x => exact RD.mono (stay_exa h u) ⟨[], by simp⟩ _ _ k
  | new q =>
    obtain ⟨c, e, ro, n⟩ := k
    have ca : c ≠ a := fun z => by subst z; exact ro_exa h hg q ro
    exact ⟨c, e, ro.mono (stay_exa h u) ⟨[], by simp⟩ fun w hw => by rw [upd_ne ca]; exact hw, n⟩
theorem EachIs.snoc {α β : Type} {R : α → β → Prop} : ∀ {as : List α} {bs : List β} {a : α} {b : β}, EachIs R as bs → R a b → EachIs R (as ++ [a]) (bs ++ [b])
  | _, _, _, _, .nil, h => .cons h .nil
  | _, _, _, _, .cons h t, r => .cons h (EachIs.snoc t r)
end
/-! ### the keys -/
open Classical in
/-- f's key of d, where f leaves the store as it is -/
noncomputable def kyOf (f : Fn) (S : Sto) (d : D) : Option PyData := match f [.d d] S with
  | some (r, S') => if S' = S then rtKey r else none
  | none => none
noncomputable def kyG (f : Fn) (S : Sto) (d : D) : PyData := (kyOf f S d).getD .none
structure KeysOk (f : Fn) (S : Sto) (ds : List D) : Prop where
  ok : ∀ d ∈ ds, ∃ k, kyOf f S d = some k
  al : AllAlike (ds.map (kyG f S))
  so : Sortable (ds.map (kyG f S))
  dp : ∀ d ∈ ds, (kyG f S d).depth ≤ 60
open Classical in
noncomputable def gSortK (f : Fn) (r : R) : M R := fun e S => (seqOf r e S).bind fun ds => if KeysOk f S ds then some (.new (.lst (ds.mergeSort (dataLe false (kyG f S)))), e, S) else none
theorem gSortK_eq {f : Fn} {r : R} {e : En} {S : Sto} {z : R × En × Sto} (h : gSortK f r e S = some z) : ∃ ds, seqOf r e S = some ds ∧ KeysOk f S ds ∧ z = (.new (.lst (ds.mergeSort (dataLe false (kyG f S)))), e, S) := by
  obtain ⟨ds, h1, h2⟩ := Option.bind_eq_some_iff.mp h
  split at h2
  · cases h2; exact ⟨ds, h1, by assumption, rfl⟩
  · cases h2
theorem wp_sortK {f : Fn} {r : R} {e : En} {S : Sto} {Q : R → En → Sto → Prop} : Wp (gSortK f r) e S Q ↔ ∃ ds, seqOf r e S = some ds ∧ KeysOk f S ds ∧ Q (.new (.lst (ds.mergeSort (dataLe false (kyG f S))))) e S := by
  constructor
  · rintro ⟨a, e', S', h, q⟩
    obtain ⟨ds, h1, h2, h3⟩ := gSortK_eq h
    cases h3
    exact ⟨ds, h1, h2, q⟩
  · rintro ⟨ds, h1, h2, q⟩
    exact ⟨_, _, _, by unfold gSortK; rw [h1]; simp only [Option.bind_some, if_pos h2], q⟩
/-! ### the rule -/
section
variable {X : Cx} {k : Nat} {q : Addr} {fd : FuncData} {ps : List Str} {f : Fn}
theorem paired_get {α β : Type} {R : α → β → Prop} : ∀ {l : List α} {m : List β} {i : Nat} {b : β}, Paired R l m → m[i]? = some b → ∃ a, l[i]? = some a ∧ R a b
  | _, _, _, _, .nil, h => by simp at h
  | _, _, 0, _, .cons r _, h => by simp at h; subst h; exact ⟨_, rfl, r⟩
  | _, _, i + 1, _, .cons _ t, h => by
    obtain ⟨a, h1, h2⟩ := paired_get t (by simpa using h)
    exact ⟨a, by simpa using h1, h2⟩
theorem RDs.get' {K : PySem.W.Frag} {H : Hp} {ι : List Addr} : ∀ {vs : List V} {ds : List D} {i : Nat} {v : V}, RDs K H ι vs ds → vs[i]? = some v → ∃ d, ds[i]? = some d ∧ RD K H ι v d
  | _, _, _, _, .nil, h => by simp at h
  | _, _, 0, _, .cons r _, h => by simp at h; subst h; exact ⟨_, rfl, r⟩
  | _, _, i + 1, _, .cons _ t, h => by
    obtain ⟨a, h1, h2⟩ := RDs.get' t (by simpa using h)
    exact ⟨a, by simpa using h1, h2⟩
/-- what leads over the calls -/
def JK (X : Cx) (pins : List (Addr × PySem.Obj)) (σ : SV) (H : Hp) (ι : List Addr) (S : Sto) (f : Fn) (ds : List D) (a c : Addr) (i : Nat) (ks : List Value) (t : Shared) : Prop :=
  ∃ H' ι' va na vc nc vs, Inv X pins σ H' t ∧ H' a = some (exa a (seqObj "list" va na)) ∧ H' c = some (exa c (seqObj "list" vc nc)) ∧ RelS X.K H' ι' S ∧ PostC H ι H' ι' ∧ Vals vs ks ∧ EachIs (fun v d => ∃ r, f [.d d] S = some (r, S) ∧ RKy X.K H' ι' v r) vs (ds.take i)
theorem each_vals {R : V → D → Prop} {T : Value → PyData → Prop} {kf : D → PyData} (go : ∀ v u d, R v d → RelV v u → T u (kf d)) : ∀ {vs : List V} {us : List Value} {ds : List D}, Vals vs us → EachIs R vs ds → EachIs T us (ds.map kf)
  | [], _, _, .nil, .nil => .nil
  | _ :: _, _, _, .cons r rs, .cons h hs => .cons (go _ _ _ h r) (each_vals go rs hs)
theorem each_mem' {α β : Type} {R : α → β → Prop} : ∀ {as : List α} {bs : List β}, EachIs R as bs → EachIs (fun a b => R a b ∧ b ∈ bs) as bs
  | _, _, .nil => .nil
  | _, _, .cons h t => .cons ⟨h, by simp⟩ ((each_mem' t).mono fun _ _ z => ⟨z.1, List.mem_cons_of_mem _ z.2⟩)
theorem each_vd {K : PySem.W.Frag} {H : Hp} {ι : List Addr} : ∀ {vs : List V} {us : List Value} {ds : List D}, Vals vs us → RDs K H ι vs ds → EachIs (fun u (b : V × D) => RelV b.1 u ∧ RD K H ι b.1 b.2) us (vs.zip ds)
  | _, _, [], rv, .nil => by cases rv; exact .nil
  | _, _, _ :: _, .cons r rs, .cons h hs => .cons ⟨r, h⟩ (each_vd rs hs)
theorem of_each_vd {K : PySem.W.Frag} {H : Hp} {ι : List Addr} : ∀ {us : List Value} {bs : List (V × D)}, EachIs (fun u (b : V × D) => RelV b.1 u ∧ RD K H ι b.1 b.2) us bs → Vals (bs.map (·.1)) us ∧ RDs K H ι (bs.map (·.1)) (bs.map (·.2))
  | _, _, .nil => ⟨.nil, .nil⟩
  | _, _, .cons h t => let ⟨a, b⟩ := of_each_vd t; ⟨.cons h.1 a, .cons h.2 b⟩
end
end G

set_option Elab.async false
set_option linter.all false
set_option maxRecDepth 1000000
set_option maxHeartbeats 4000000
/-! GB: dicts: comprehensions, d[k] = v, k in d, d.pop(k), list(d.values()). -/
namespace G
variable [Wld]
open PySem PySem.Spec PyProof.Rows L2
section
variable {K : PySem.W.Frag} {H : Hp} {ι : List Addr} {σ : SV} {e : En} {S : Sto} {v : V} {r : R}
def dropD (kvs : List (Key × D)) (k : Key) : List (Key × D) := kvs.filter fun kv => decide (kv.1 ≠ k)
theorem RK.drop {ws : List (Key × V)} {kvs : List (Key × D)} (h : RK K H ι ws kvs) (k : Key) : RK K H ι (dropK ws k) (dropD kvs k) := by
  induction h with
  | nil => exact .nil
  | cons h1 _ ih =>
    rename_i p q _ _ _
    unfold dropK dropD
    by_cases hk : q.1 = k
    · rw [List.filter_cons_of_neg (by simp [h1.1, hk]), List.filter_cons_of_neg (by simp [hk])]; exact ih
    · rw [List.filter_cons_of_pos (by simp [h1.1, hk]), List.filter_cons_of_pos (by simp [hk])]; exact .cons h1 ih
theorem RK.len {ws : List (Key × V)} {kvs : List (Key × D)} (h : RK K H ι ws kvs) : ws.length = kvs.length := Paired.length h
theorem putD_len (kvs : List (Key × D)) (k : Key) (d : D) : (putD kvs k d).length ≤ kvs.length + 1 := by
  unfold putD
  split <;> simp
theorem mergeD_len : ∀ (more kvs : List (Key × D)), (mergeD kvs more).length ≤ kvs.length + more.length
  | [], kvs => by simp [mergeD]
  | p :: more, kvs => by
    have h := mergeD_len more (putD kvs p.1 p.2)
    have h2 := putD_len kvs p.1 p.2
    have e : mergeD kvs (p :: more) = mergeD (putD kvs p.1 p.2) more := rfl
    rw [e, List.length_cons]
    omega
theorem prsOf_append : ∀ {xs ys : List D} {all : List (Key × D)}, prsOf (xs ++ ys) = some all → ∃ a b, prsOf xs = some a ∧ prsOf ys = some b ∧ all = a ++ b
  | [], ys, all, h => ⟨[], all, rfl, h, rfl⟩
  | x :: xs, ys, all, h => by
    rw [List.cons_append] at h
    unfold prsOf at h
    split at h
    · rename_i hh; cases hh
    · rename_i kd vd ds' hh
      cases hh
      obtain ⟨k, hk, h⟩ := Option.bind_eq_some_iff.mp h
      obtain ⟨cs, e1, e2⟩ := Option.map_eq_some_iff.mp h
      subst e2
      obtain ⟨a, b, e3, e4, rfl⟩ := prsOf_append e1
      refine ⟨(k, vd) :: a, b, ?_, e4, rfl⟩
      unfold prsOf
      rw [hk, e3]; rfl
    · cases h
end
/-! ### comprehensions -/
def mKV (mk mv : M R) : M R := bnd mk fun k => bnd mv fun x => match k, x with
  | .d k, .d x => pur (.d (.tup [k, x]))
  | _, _ => stk
noncomputable def mDc (vs : List Nat) (t : Tgt) (mi : M Src) (c : M Bool) (mk mv : M R) : M R := bnd mi fun src => bnd (fun e S => compL vs t c (mKV mk mv) src.ws src.items (wipeE e vs) S) fun ys e S => (prsOf ys).map fun kvs => (.new (.dct (mergeD [] kvs)), e, S)
section
variable {X : Cx} {kx vx tg iter : Expr} {ifs : List Expr} {scope : Scope} {own : List (Str × Nat)} {pos : Pos} {mi : M Src} {t : Tgt} {mc : M Bool} {mk mv : M R}
end
section
variable {X : Cx} {o i value e : Expr} {pos pos' apos cpos mpos p : Pos} {mo mi mv mk : M R}
/-! ### d[k] = v -/
def setK (ro ri : R) (x : D) : M Fl := fun e S => match ri with
  | .d y => (match look ro e S with
    | some (.dct kvs) => (keyOf y).bind fun k => if isW ro && decide (kvs.length < 1000000) then some (.nx, putE ro (.dct (putD kvs k x)) e, putS ro (.dct (putD kvs k x)) S) else none
    | _ => none)
  | _ => none
theorem setK_eq {ro ri : R} {x : D} {e : En} {S : Sto} {z} (h : setK ro ri x e S = some z) : ∃ kvs y k, look ro e S = some (.dct kvs) ∧ ri = .d y ∧ keyOf y = some k ∧ isW ro = true ∧ kvs.length < 1000000 ∧ z = (.nx, putE ro (.dct (putD kvs k x)) e, putS ro (.dct (putD kvs k x)) S) := by
  unfold setK at h
  split at h
  · split at h
    · obtain ⟨k, h1, h2⟩ := Option.bind_eq_some_iff.mp h
      split at h2
      · rename_i hc
        simp only [Bool.and_eq_true, decide_eq_true_eq] at hc
        exact ⟨_, _, k, by assumption, rfl, h1, hc.1, hc.2, (Option.some.inj h2).symm⟩
      · cases h2
    · cases h
  · cases h
def mSetK (mv mo mi : M R) : M Fl := bnd mv fun v => match v with
  | .d x => bnd mo fun o => bnd mi fun i => setK o i x
  | _ => stk
/-! ### k in d -/
def gInD (neg : Bool) (rx ry : R) : M R := fun e S => match rx with
  | .d y => (match look ry e S with
    | some (.dct kvs) => (keyOf y).map fun k => (.d (.bl ((valD kvs k).isSome != neg)), e, S)
    | _ => none)
  | _ => none
theorem gInD_eq {neg : Bool} {rx ry : R} {e : En} {S : Sto} {z : R × En × Sto} (h : gInD neg rx ry e S = some z) : ∃ kvs y k, rx = .d y ∧ look ry e S = some (.dct kvs) ∧ keyOf y = some k ∧ z = (.d (.bl ((valD kvs k).isSome != neg)), e, S) := by
  unfold gInD at h
  split at h
  · split at h
    · obtain ⟨k, h1, h2⟩ := Option.map_eq_some_iff.mp h
      exact ⟨_, _, k, rfl, by assumption, h1, h2.symm⟩
    · cases h
  · cases h
theorem tDI_of {K : PySem.W.Frag} {neg : Bool} {σ : SV} {H : Hp} {Q : VK} (q : tG K (mBin (gInD neg) mi mo) σ H Q) : tG K mi σ H fun y H1 => tG K mo σ H1 fun x H2 => ∃ a ov, x = .ref a ∧ DGet H2 a y ov ∧ Q (.bl (ov.isSome != neg)) H2 := by
  obtain ⟨ι, e, S, r, e', S', R, hm, q⟩ := q
  obtain ⟨ry, e1, S1, h1, hm⟩ := bnd_eq hm
  obtain ⟨rx, e2, S2, h2, hm⟩ := bnd_eq hm
  obtain ⟨kvs, y, k, rfl, hl, hk, hz⟩ := gInD_eq hm
  cases hz
  refine ⟨ι, e, S, _, e1, S1, R, h1, fun v H1 ι1 R1 P1 r1 _ => ⟨ι1, _, _, rx, _, _, R1, h2, fun x H2 ι2 R2 P2 r2 _ => ?_⟩⟩
  obtain ⟨p, ws, rfl, g1, g2⟩ := R2.lookD r2 hl
  have r1'' : RD K H2 ι2 v y := RR.post (r := .d y) r1 P2
  refine ⟨p, valV ws k, rfl, .inl ⟨ws, k, g1, keyOf_v r1'' hk, rfl⟩, ?_⟩
  have e : (valV ws k).isSome = (valD kvs k).isSome := by
    cases hv : valD kvs k with
    | none => rw [(g2.val k).2 hv]; rfl
    | some d => obtain ⟨z, hz, _⟩ := (g2.val k).1 d hv; rw [hz]; rfl
  rw [e]
  exact q _ H2 ι2 R2 (P1.trans P2) (.bl _) trivial
theorem gt_dnin (hu : X.A.units + 1 < cLine) (hi : GE X i mi) (ho : GE X o mo) (h1 : behindInMarks .NotIn o = false := by first | exact nomark _ | rfl) : GT X (.Compare i [.NotIn] [o] pos) (bnd (mBin (gInD true) mi mo) asB) :=
  PT.imp (pt_cmp (pc_dnotin hu hi ho) h1) fun σ H Q q => by simpa [tDNotIn, tB] using tDI_of (tG_test q)
/-! ### d.pop(k) -/
def gDPop (rx ry : R) : M R := fun e S => match ry with
  | .d y => (match look rx e S with
    | some (.dct kvs) => (keyOf y).bind fun k => (valD kvs k).bind fun d => if isW rx then some (.d d, putE rx (.dct (dropD kvs k)) e, putS rx (.dct (dropD kvs k)) S) else none
    | _ => none)
  | _ => none
theorem gDPop_eq {rx ry : R} {e : En} {S : Sto} {z : R × En × Sto} (h : gDPop rx ry e S = some z) : ∃ kvs y k d, ry = .d y ∧ look rx e S = some (.dct kvs) ∧ keyOf y = some k ∧ valD kvs k = some d ∧ isW rx = true ∧ z = (.d d, putE rx (.dct (dropD kvs k)) e, putS rx (.dct (dropD kvs k)) S) := by
  unfold gDPop at h
  split at h
  · split at h
    · obtain ⟨k, h1, h2⟩ := Option.bind_eq_some_iff.mp h
      obtain ⟨d, h3, h4⟩ := Option.bind_eq_some_iff.mp h2
      split at h4
      · exact ⟨_, _, k, d, rfl, by assumption, h1, h3, by assumption, (Option.some.inj h4).symm⟩
      · cases h4
    · cases h
  · cases h
def mDPop (mo mk : M R) : M R := bnd mo fun x => bnd (chkD x) fun _ => bnd mk fun y => gDPop x y
/-! ### list(d.values()) -/
def rVals : V → List V → Hp → VK → Prop := fun x xs H Q => ∃ a kvs, x = .ref a ∧ xs = [] ∧ Rd H a (.dK kvs) ∧ ∀ p, H p = none → Q (.ref p) (upd H p (viewO "dict_values" p a))
def notDic : R → Bool
  | .d (.dic _ _) => false
  | _ => true
def gVals (r : R) : M R := fun e S => match look r e S with
  | some (.dct kvs) => if notDic r = true then some (.new (.lst (kvs.map (·.2))), e, S) else none
  | _ => none
end
end G

set_option Elab.async false
set_option linter.all false
set_option maxRecDepth 1000000
set_option maxHeartbeats 4000000
/-! GC: enumerate of a list, of a tuple. -/
namespace G
variable [Wld]
open PySem PySem.Spec PyProof.Rows L2
section
variable {prog : Program} {w : World} {A : Around} {E : Value → Shared → Prop} {s : Shared}
end
/-- the tuple at a, each item in a new pair -/
def Iten (K : PySem.W.Frag) (a : Addr) : It :=
  ⟨fun i H => ∃ (xs : List V) (x : V), SqT K H a xs ∧ xs[i]? = some x, fun i H v H' => ∃ T x, v = .ref T ∧ H T = none ∧ H' = upd H T (.tup [.int (i : Nat), x]) ∧ ∀ xs, SqT K H a xs → xs[i]? = some x, fun i H => ∃ xs : List V, SqT K H a xs ∧ xs.length ≤ i⟩
def iEnumT (K : PySem.W.Frag) (ta : TA) : TI := fun σ H R => ta σ H fun vs H1 => ∃ a xs, vs = [.ref a] ∧ SqT K H1 a xs ∧ R (Iten K a) H1
def enumD (ds : List D) : List D := ds.zipIdx.map fun p => .tup [.int (p.2 : Nat), p.1]
def srcEnum (rs : List R) : M Src := fun e S => match rs with
  | [r] => (srcOf r e S).map fun z => (⟨enumD z.1.items, z.1.ws⟩, e, S)
  | _ => none
end G

set_option Elab.async false
set_option linter.all false
set_option maxRecDepth 1000000
set_option maxHeartbeats 4000000
/-! GF: sorted(texts); what is never reached; the calculus of GA, GB, GC. -/
namespace G
variable [Wld]
open PySem PySem.Spec PyProof.Rows L2
def gSortS (r : R) : M R := fun e S => (lstOf r e S).bind fun ds => (strsOf ds).bind fun xs => if xs.length < 64 then some (.new (.lst ((srtS xs).map D.str)), e, S) else none
theorem gSortS_eq {r : R} {e : En} {S : Sto} {z : R × En × Sto} (h : gSortS r e S = some z) : ∃ ds xs, lstOf r e S = some ds ∧ strsOf ds = some xs ∧ xs.length < 64 ∧ z = (.new (.lst ((srtS xs).map D.str)), e, S) := by
  obtain ⟨ds, h1, h2⟩ := Option.bind_eq_some_iff.mp h
  obtain ⟨xs, h3, h4⟩ := Option.bind_eq_some_iff.mp h2
  split at h4
  · cases h4; exact ⟨ds, xs, h1, h3, by assumption, rfl⟩
  · cases h4
theorem cg_sortS {X : Cx} : CallR X (.builtin "sorted") (tOA X.K (g1 gSortS)) := g1_of cr_sortedS fun ι σ e S v rx r' e' S' H Q R hr hm q => by
  obtain ⟨ds, xs, h1, h2, h3, hz⟩ := gSortS_eq hm
  cases hz
  obtain ⟨a, vs, rfl, g1, g2⟩ := R.lst hr h1
  refine ⟨a, xs, rfl, by rw [← g2.ofStrs h2]; exact g1, h3, fun ys p hp hs hn => ?_⟩
  have := srtS_of hp hs
  subst this
  obtain ⟨R4, P4, n1, n2⟩ := R.new (u := .lst ((srtS xs).map V.str)) hn
  exact q _ _ ι R4 P4 ⟨p, rfl, ⟨_, upd_same, RDs.strs _⟩, n1, n2⟩ ⟨p, rfl, hn⟩
def g2I (f : Int → Int → Int) (rs : List R) : M R := match rs with
  | [.d (.int i), .d (.int j)] => pur (.d (.int (f i j)))
  | _ => stk
theorem g2I_of {X : Cx} {f : Int → Int → Int} {id : String} (h : CallR X (.builtin id) (fun xs H Q => ∃ i j, xs = [.int i, .int j] ∧ Q (.int (f i j)) H)) : CallR X (.builtin id) (tOA X.K (g2I f)) := CallR.imp h fun xs H Q q => by
  obtain ⟨ι, σ, e, S, rs, r, e', S', R, hr, hm, q⟩ := q
  unfold g2I at hm
  split at hm
  · cases hm
    cases hr with | cons h1 h2 =>
    cases h2 with | cons h2 h3 =>
    cases h3
    cases h1
    cases h2
    exact ⟨_, _, rfl, q _ H ι R .refl (.int _) trivial⟩
  · cases hm
def max2 (i j : Int) : Int := if j > i then j else i
def min2 (i j : Int) : Int := if j < i then j else i
theorem cg_min2 {X : Cx} (hc : X.calm = true) : CallR X (.builtin "min") (tOA X.K (g2I min2)) := g2I_of (call_min2 hc)
section
variable {e : En} {S : Sto} {Q : R → En → Sto → Prop}
theorem wp_sortS {r : R} : Wp (gSortS r) e S Q ↔ ∃ ds, lstOf r e S = some ds ∧ ∃ xs, strsOf ds = some xs ∧ xs.length < 64 ∧ Q (.new (.lst ((srtS xs).map D.str))) e S := by
  constructor
  · rintro ⟨a, e', S', h, q⟩
    obtain ⟨ds, xs, h1, h2, h3, hz⟩ := gSortS_eq h
    cases hz
    exact ⟨ds, h1, xs, h2, h3, q⟩
  · rintro ⟨ds, h1, xs, h2, h3, q⟩
    exact ⟨_, _, _, by unfold gSortS; rw [h1]; simp only [Option.bind_some, h2, if_pos h3], q⟩
theorem wp_inD {neg : Bool} {y : D} {ry : R} : Wp (gInD neg (.d y) ry) e S Q ↔ ∃ kvs, look ry e S = some (.dct kvs) ∧ ∃ k, keyOf y = some k ∧ Q (.d (.bl ((valD kvs k).isSome != neg))) e S := by
  constructor
  · rintro ⟨a, e', S', h, q⟩
    obtain ⟨kvs, y', k, h1, h2, h3, hz⟩ := gInD_eq h
    cases h1; cases hz
    exact ⟨kvs, h2, k, h3, q⟩
  · rintro ⟨kvs, h2, k, h3, q⟩
    exact ⟨_, _, _, by unfold gInD; simp only [h2, h3, Option.map_some], q⟩
theorem wp_dpop {rx : R} {y : D} : Wp (gDPop rx (.d y)) e S Q ↔ ∃ kvs, look rx e S = some (.dct kvs) ∧ isW rx = true ∧ ∃ k, keyOf y = some k ∧ ∃ d, valD kvs k = some d ∧ Q (.d d) (putE rx (.dct (dropD kvs k)) e) (putS rx (.dct (dropD kvs k)) S) := by
  constructor
  · rintro ⟨a, e', S', h, q⟩
    obtain ⟨kvs, y', k, d, h1, h2, h3, h4, h5, hz⟩ := gDPop_eq h
    cases h1; cases hz
    exact ⟨kvs, h2, h5, k, h3, d, h4, q⟩
  · rintro ⟨kvs, h2, h5, k, h3, d, h4, q⟩
    exact ⟨_, _, _, by unfold gDPop; simp only [h2, h3, h4, Option.bind_some, if_pos h5], q⟩
theorem wp_setK {ro : R} {y x : D} {Q : Fl → En → Sto → Prop} : Wp (setK ro (.d y) x) e S Q ↔ ∃ kvs, look ro e S = some (.dct kvs) ∧ isW ro = true ∧ kvs.length < 1000000 ∧ ∃ k, keyOf y = some k ∧ Q .nx (putE ro (.dct (putD kvs k x)) e) (putS ro (.dct (putD kvs k x)) S) := by
  constructor
  · rintro ⟨a, e', S', h, q⟩
    obtain ⟨kvs, y', k, h1, h2, h3, h4, h5, hz⟩ := setK_eq h
    cases h2; cases hz
    exact ⟨kvs, h1, h4, h5, k, h3, q⟩
  · rintro ⟨kvs, h1, h4, h5, k, h3, q⟩
    exact ⟨_, _, _, by unfold setK; simp only [h1, h3, Option.bind_some, h4, decide_eq_true h5, Bool.and_self, if_true], q⟩
theorem wp_vals {r : R} : Wp (gVals r) e S Q ↔ ∃ kvs, look r e S = some (.dct kvs) ∧ notDic r = true ∧ Q (.new (.lst (kvs.map (·.2)))) e S := by
  constructor
  · rintro ⟨a, e', S', h, q⟩
    unfold gVals at h
    split at h
    · split at h
      · cases h; exact ⟨_, by assumption, by assumption, q⟩
      · cases h
    · cases h
  · rintro ⟨kvs, h1, h2, q⟩
    exact ⟨_, _, _, by unfold gVals; simp only [h1, if_pos h2], q⟩
theorem wp_g2I {f : Int → Int → Int} {i j : Int} : Wp (g2I f [.d (.int i), .d (.int j)]) e S Q ↔ Q (.d (.int (f i j))) e S := wp_pur
theorem notDic_new {o : O} : notDic (.new o) = true := rfl
theorem notDic_loc {i : Nat} : notDic (.loc i) = true := rfl
theorem notDic_brw {o : O} : notDic (.brw o) = true := rfl
theorem notDic_ref {n : Nat} : notDic (.d (.ref n)) = true := rfl
end
theorem ev8 : type_of% (And.intro @wp_sortK (And.intro @wp_sortS (And.intro @wp_inD (And.intro @wp_dpop (And.intro @wp_setK (And.intro @wp_vals (And.intro @notDic_new (And.intro @notDic_loc (And.intro @notDic_brw (And.intro @notDic_ref @wp_g2I)))))))))) := And.intro @wp_sortK (And.intro @wp_sortS (And.intro @wp_inD (And.intro @wp_dpop (And.intro @wp_setK (And.intro @wp_vals (And.intro @notDic_new (And.intro @notDic_loc (And.intro @notDic_brw (And.intro @notDic_ref @wp_g2I)))))))))
end G

set_option Elab.async false
set_option linter.all false
set_option maxRecDepth 1000000
set_option maxHeartbeats 4000000
/-! GU: the calculus of GB's, GC's mirrors. -/
namespace G
variable [Wld]
open PySem PySem.Spec PyProof.Rows L2
section
variable {e : En} {S : Sto} {Q : R → En → Sto → Prop} {F : Fl → En → Sto → Prop}
theorem wp_mKV {mk mv : M R} : Wp (mKV mk mv) e S Q ↔ Wp mk e S fun k e1 S1 => Wp mv e1 S1 fun x e2 S2 => ∃ kd, k = .d kd ∧ ∃ xd, x = .d xd ∧ Q (.d (.tup [kd, xd])) e2 S2 := by
  simp only [mKV, wp_bnd]
  constructor
  · rintro ⟨k, e1, S1, h1, x, e2, S2, h2, a, e3, S3, h3, q⟩
    refine ⟨k, e1, S1, h1, x, e2, S2, h2, ?_⟩
    cases k with
    | d kd =>
      cases x with
      | d xd => cases h3; exact ⟨kd, rfl, xd, rfl, q⟩
      | _ => cases h3
    | _ => cases h3
  · rintro ⟨k, e1, S1, h1, x, e2, S2, h2, kd, rfl, xd, rfl, q⟩
    exact ⟨_, e1, S1, h1, _, e2, S2, h2, _, _, _, rfl, q⟩
theorem wp_mDc {vs : List Nat} {t : Tgt} {mi : M Src} {c : M Bool} {mk mv : M R} : Wp (mDc vs t mi c mk mv) e S Q ↔ Wp mi e S fun src e1 S1 => Wp (compL vs t c (mKV mk mv) src.ws src.items) (wipeE e1 vs) S1 fun ys e2 S2 => ∃ kvs, prsOf ys = some kvs ∧ Q (.new (.dct (mergeD [] kvs))) e2 S2 := by
  simp only [mDc, wp_bnd]
  constructor
  · rintro ⟨src, e1, S1, h1, ys, e2, S2, h2, a, e3, S3, h3, q⟩
    obtain ⟨kvs, h4, h5⟩ := Option.map_eq_some_iff.mp h3
    cases h5
    exact ⟨src, e1, S1, h1, ys, e2, S2, h2, kvs, h4, q⟩
  · rintro ⟨src, e1, S1, h1, ys, e2, S2, h2, kvs, h4, q⟩
    exact ⟨src, e1, S1, h1, ys, e2, S2, h2, _, _, _, Option.map_eq_some_iff.mpr ⟨kvs, h4, rfl⟩, q⟩
theorem wp_mSetK {mv mo mi : M R} : Wp (mSetK mv mo mi) e S F ↔ Wp mv e S fun v e1 S1 => ∃ x, v = .d x ∧ Wp mo e1 S1 fun o e2 S2 => Wp mi e2 S2 fun i e3 S3 => Wp (setK o i x) e3 S3 F := by
  simp only [mSetK, wp_bnd]
  constructor
  · rintro ⟨v, e1, S1, h, q⟩
    refine ⟨v, e1, S1, h, ?_⟩
    split at q
    · exact ⟨_, rfl, by simpa using q⟩
    · exact (wp_stk.mp q).elim
  · rintro ⟨v, e1, S1, h, x, rfl, q⟩
    exact ⟨_, e1, S1, h, by simpa using q⟩
theorem wp_mDPop {mo mk : M R} : Wp (mDPop mo mk) e S Q ↔ Wp mo e S fun x e1 S1 => Wp (chkD x) e1 S1 fun _ e2 S2 => Wp mk e2 S2 fun y e3 S3 => Wp (gDPop x y) e3 S3 Q := by simp only [mDPop, wp_bnd]
theorem srcV_ref {n : Nat} {ds : List D} (h : S[n]? = some (.lst ds)) : srcOf (.d (.ref n)) e S = some (⟨ds, [(.d (.ref n), ds)]⟩, e, S) := by simp [srcOf, look, h]
theorem wp_src_ref {n : Nat} {q : Src → En → Sto → Prop} : Wp (srcOf (.d (.ref n))) e S q ↔ ∃ ds, seqL S[n]? = some ds ∧ q ⟨ds, [(.d (.ref n), ds)]⟩ e S := by
  constructor
  · rintro ⟨a, e', S', h, k⟩
    have h' : (match S[n]? with
      | some (.lst ds) => some (⟨ds, [(R.d (.ref n), ds)]⟩, e, S)
      | _ => none) = some (a, e', S') := h
    split at h'
    · cases h'; rename_i ds hh; exact ⟨ds, by rw [hh]; rfl, k⟩
    · cases h'
  · rintro ⟨ds, h, k⟩
    have : S[n]? = some (.lst ds) := by
      cases h3 : S[n]? with
      | none => rw [h3] at h; cases h
      | some o => cases o <;> rw [h3] at h <;> cases h; rfl
    exact ⟨_, _, _, srcV_ref this, k⟩
theorem wp_enum {r : R} {q : Src → En → Sto → Prop} : Wp (srcEnum [r]) e S q ↔ Wp (srcOf r) e S fun s _ _ => q ⟨enumD s.items, s.ws⟩ e S := by
  constructor
  · rintro ⟨a, e', S', h, k⟩
    obtain ⟨⟨s, e1, S1⟩, h1, h2⟩ := Option.map_eq_some_iff.mp (show (srcOf r e S).map _ = _ from h)
    cases h2
    exact ⟨s, e1, S1, h1, k⟩
  · rintro ⟨s, e1, S1, h1, k⟩
    exact ⟨_, _, _, Option.map_eq_some_iff.mpr ⟨_, h1, rfl⟩, k⟩
end
theorem wp_abs {e : En} {S : Sto} {Q : R → En → Sto → Prop} {i : Int} : Wp (gAbs (.d (.int i))) e S Q ↔ Q (.d (.int (if i < 0 then -i else i))) e S := wp_some rfl
theorem ev9 : type_of% (And.intro @wp_mKV (And.intro @wp_mDc (And.intro @wp_mSetK (And.intro @wp_mDPop (And.intro @wp_enum (And.intro @wp_src_ref @wp_abs)))))) := And.intro @wp_mKV (And.intro @wp_mDc (And.intro @wp_mSetK (And.intro @wp_mDPop (And.intro @wp_enum (And.intro @wp_src_ref @wp_abs)))))
end G

set_option Elab.async false
set_option linter.all false
set_option maxRecDepth 100000
set_option maxHeartbeats 4000000
/-! GW: how great a data is, and its text. -/
namespace G
variable [Wld]
open PySem PySem.Spec PyProof.Rows L2
/-! ### texts of ASCII -/
def Asc (x : Str) : Prop := ∀ c ∈ x.cps.toList, c < 128
theorem Asc.app {a b : Str} (h : Asc a) (k : Asc b) : Asc (a ++ b) := fun c hc => by
  have : (a ++ b).cps.toList = a.cps.toList ++ b.cps.toList := by show (a.cps ++ b.cps).toList = _; simp
  rw [this] at hc
  rcases List.mem_append.mp hc with hc | hc
  · exact h c hc
  · exact k c hc
theorem Asc.join {sep : Str} (hs : Asc sep) : ∀ {ts : List Str}, (∀ t ∈ ts, Asc t) → Asc (Str.join sep ts)
  | [], _ => fun c hc => by
    have e : Str.join sep [] = ⟨#[]⟩ := rfl
    rw [e] at hc; simp at hc
  | [x], h => h x (by simp)
  | x :: y :: r, h => ((h x (by simp)).app hs).app (Asc.join hs fun t ht => h t (List.mem_cons_of_mem _ ht))
theorem digitChar_asc (n : Nat) : (Nat.digitChar n).toNat < 128 := by
  have h : ∀ k : Fin 17, (Nat.digitChar k.1).toNat < 128 := by decide +kernel
  by_cases hn : n < 17
  · exact h ⟨n, hn⟩
  · have e : Nat.digitChar n = '*' := by
      unfold Nat.digitChar
      repeat rw [if_neg (by omega)]
    rw [e]; decide
theorem toDigitsCore_asc (b : Nat) : ∀ (f n : Nat) (ds : List Char), (∀ c ∈ ds, c.toNat < 128) → ∀ c ∈ Nat.toDigitsCore b f n ds, c.toNat < 128
  | 0, n, ds, h => by unfold Nat.toDigitsCore; exact h
  | f + 1, n, ds, h => by
    unfold Nat.toDigitsCore
    dsimp only
    have h' : ∀ c ∈ Nat.digitChar (n % b) :: ds, c.toNat < 128 := fun c hc => by
      rcases List.mem_cons.mp hc with rfl | hc
      · exact digitChar_asc _
      · exact h c hc
    split
    · exact h'
    · exact toDigitsCore_asc b f _ _ h'
theorem toDigits_asc (b n : Nat) : ∀ c ∈ Nat.toDigits b n, c.toNat < 128 := toDigitsCore_asc b _ n [] (fun _ h => nomatch h)
theorem asc_ofString {s : String} (h : ∀ c ∈ s.toList, c.toNat < 128) : Asc (Str.ofString s) := by
  rw [congrFun Str.ofString_eq_byList s]
  intro c hc
  simp only [Str.ofStringByList, List.mem_map] at hc
  obtain ⟨d, hd, rfl⟩ := hc
  exact h d hd
theorem asc_int (i : Int) : Asc (Str.ofString (toString i)) := by
  refine asc_ofString ?_
  cases i with
  | ofNat m =>
    have e : toString (Int.ofNat m) = Nat.repr m := rfl
    rw [e]
    unfold Nat.repr
    rw [String.toList_ofList]
    exact toDigits_asc 10 m
  | negSucc m =>
    have e : toString (Int.negSucc m) = "-" ++ Nat.repr (m + 1) := rfl
    rw [e, String.toList_append]
    intro c hc
    rcases List.mem_append.mp hc with hc | hc
    · have : c = '-' := by simpa using hc
      subst this; decide
    · unfold Nat.repr at hc
      rw [String.toList_ofList] at hc
      exact toDigits_asc 10 _ c hc
theorem asc_reprChar {q c : Nat} (hc : c < 128) : ∀ b ∈ Builtin.Str.reprChar q c, b < 128 := by
  have hx : ∀ w : Nat, ∀ b ∈ (List.replicate (w - ((Nat.toDigits 16 c).map Char.toNat).length) 48 ++ (Nat.toDigits 16 c).map Char.toNat), b < 128 := fun w b hb => by
    rcases List.mem_append.mp hb with hb | hb
    · rw [(List.mem_replicate.mp hb).2]; decide
    · obtain ⟨d, hd, rfl⟩ := List.mem_map.mp hb
      exact toDigits_asc 16 c d hd
  unfold Builtin.Str.reprChar
  dsimp only
  repeat' split
  all_goals intro b hb
  all_goals first
    | (simp only [List.mem_cons, List.not_mem_nil, or_false] at hb; omega)
    | (rcases List.mem_append.mp hb with hb | hb
       · simp only [List.mem_cons, List.not_mem_nil, or_false] at hb; omega
       · exact hx _ b hb)
theorem asc_reprText {x : Str} (h : Asc x) : Asc (reprText x) := by
  have hq : reprQuote x < 128 := by unfold reprQuote; split <;> decide
  have go : ∀ (l : List Nat) (acc : Array Nat), (∀ c ∈ l, c < 128) → (∀ c ∈ acc.toList, c < 128) → ∀ c ∈ (l.foldl (fun out c => out ++ (Builtin.Str.reprChar (reprQuote x) c).toArray) acc).toList, c < 128 := by
    intro l
    induction l with
    | nil => intro acc _ h2; exact h2
    | cons c r ih =>
      intro acc h1 h2
      refine ih _ (fun d hd => h1 d (List.mem_cons_of_mem _ hd)) fun d hd => ?_
      simp only [Array.toList_append, List.mem_append] at hd
      rcases hd with hd | hd
      · exact h2 d hd
      · exact asc_reprChar (h1 c (by simp)) d hd
  unfold reprText
  intro c hc
  rw [← Array.foldl_toList, Array.toList_push] at hc
  rcases List.mem_append.mp hc with hc | hc
  · exact go _ _ h (fun c hc => by simp at hc; rw [hc]; exact hq) c hc
  · simp at hc; rw [hc]; exact hq
/-! ### data: small leaves, weight, depth -/
def ascB (x : Str) : Bool := x.cps.toList.all fun c => decide (c < 128)
theorem ascB_iff {x : Str} : ascB x = true ↔ Asc x := by
  unfold ascB Asc
  rw [List.all_eq_true]
  exact ⟨fun h c hc => of_decide_eq_true (h c hc), fun h c hc => decide_eq_true (h c hc)⟩
def keyOkB (N : Nat) : Key → Bool
  | .inl i => decide (i.natAbs ≤ N)
  | .inr x => ascB x
def keyW : Key → Nat
  | .inl _ => 70
  | .inr x => x.length
mutual
/-- numbers of at most N, texts of ASCII -/
def lvB (N L : Nat) : D → Bool
  | .non => true
  | .bl _ => true
  | .int i => decide (i.natAbs ≤ N)
  | .str x => ascB x
  | .tup ds => decide (ds.length ≤ L) && lvsB N L ds
  | .lst ds => decide (ds.length ≤ L) && lvsB N L ds
  | .dic ks ds => ks.all (keyOkB N) && decide (ks.length = ds.length) && lvsB N L ds
  | .ref _ => false
  | .fn _ => false
  | .exc _ _ _ => false
def lvsB (N L : Nat) : List D → Bool
  | [] => true
  | d :: ds => lvB N L d && lvsB N L ds
end
mutual
def wt : D → Nat
  | .int _ => 70
  | .str x => x.length
  | .tup ds => wts ds
  | .lst ds => wts ds
  | .dic ks ds => (ks.map fun k => keyW k + 1).sum + wts ds
  | _ => 0
def wts : List D → Nat
  | [] => 0
  | d :: ds => wt d + 1 + wts ds
end
mutual
def dep : D → Nat
  | .tup ds => deps ds + 1
  | .lst ds => deps ds + 1
  | .dic _ ds => deps ds + 1
  | _ => 0
def deps : List D → Nat
  | [] => 0
  | d :: ds => max (dep d) (deps ds)
end
theorem lvsB_all {N L : Nat} : ∀ ds : List D, lvsB N L ds = ds.all (lvB N L)
  | [] => rfl
  | d :: ds => by rw [lvsB, lvsB_all ds]; rfl
theorem wts_sum : ∀ ds : List D, wts ds = (ds.map fun d => wt d + 1).sum
  | [] => rfl
  | d :: ds => by rw [wts, wts_sum ds]; simp
theorem deps_le {k : Nat} : ∀ {ds : List D}, deps ds ≤ k ↔ ∀ d ∈ ds, dep d ≤ k
  | [] => by simp [deps]
  | d :: ds => by rw [deps, Nat.max_le, deps_le (ds := ds)]; simp
mutual
theorem lv_dat {N L : Nat} : ∀ {d : D}, lvB N L d = true → datB d = true
  | .non, _ => rfl
  | .bl _, _ => rfl
  | .int _, _ => rfl
  | .str _, _ => rfl
  | .tup ds, h => by simp only [datB]; exact lvs_dats (by simp only [lvB, Bool.and_eq_true] at h; exact h.2)
  | .lst ds, h => by simp only [datB]; exact lvs_dats (by simp only [lvB, Bool.and_eq_true] at h; exact h.2)
  | .dic ks ds, h => by simp only [lvB, Bool.and_eq_true] at h; simp only [datB]; exact lvs_dats h.2
  | .ref _, h => by cases h
  | .fn _, h => by cases h
theorem lvs_dats {N L : Nat} : ∀ {ds : List D}, lvsB N L ds = true → datsB ds = true
  | [], _ => rfl
  | d :: ds, h => by simp only [lvsB, Bool.and_eq_true] at h; simp only [datsB, lv_dat h.1, lvs_dats h.2, Bool.and_self]
end
theorem int_shown {N : Nat} {i : Int} (hN : N < 10 ^ 21) (h : i.natAbs ≤ N) : (PyData.int i).leavesShort 22 = true ∧ (PyData.int i).showable = true := by
  have h1 : i.natAbs < 10 ^ 21 := by omega
  have h2 := int_text_length_le10 (k := 21) (by decide) h1
  have h3 : (Str.ofString (toString i)).length ≤ 22 := by rw [PySem.ofString_length]; exact h2
  have h4 : i.natAbs.log2 < 1920 := by
    by_cases h0 : i.natAbs = 0
    · rw [h0]; decide
    · exact (Nat.log2_lt h0).mpr (Nat.lt_of_lt_of_le h1 (Nat.le_trans (by decide : 10 ^ 21 ≤ 2 ^ 80) (Nat.pow_le_pow_right (by decide) (by decide))))
  exact ⟨by simp only [PyData.leavesShort, PyData.shown]; exact decide_eq_true h3, by simp only [PyData.showable, decide_eq_true_eq]; exact h4⟩
theorem int_w {N : Nat} {i : Int} (hN : N < 10 ^ 21) (h : i.natAbs ≤ N) : (PyData.int i).weight ≤ 70 := by
  have h1 : i.natAbs < 10 ^ 21 := by omega
  simp only [PyData.weight]
  split
  · omega
  · rename_i h0
    have h0' : i.natAbs ≠ 0 := fun e => h0 (by have : i = 0 := Int.natAbs_eq_zero.mp e; subst this; rfl)
    have := (Nat.log2_lt (k := 70) h0').mpr (Nat.lt_of_lt_of_le h1 (by decide))
    omega
theorem str_short {x : Str} (h : Asc x) : (PyData.str x).leavesShort 22 = true := by
  simp only [PyData.leavesShort, List.all_eq_true, decide_eq_true_eq]
  exact fun c hc => Nat.lt_trans (h c hc) (by decide)
theorem asc_lit {s : String} (h : (Str.ofString s).cps.toList.all (fun c => decide (c < 128)) = true) : Asc (Str.ofString s) := ascB_iff.mp h
theorem asc_textFrom : ∀ (ts : List Str) (k : Nat) (acc : Str), (∀ t ∈ ts, Asc t) → Asc acc → Asc (textFrom k acc ts)
  | [], _, acc, _, h => h
  | t :: r, k, acc, ht, h => by
    refine asc_textFrom r (k + 1) _ (fun x hx => ht x (List.mem_cons_of_mem _ hx)) ((h.app ?_).app (ht t (by simp)))
    split <;> exact asc_lit (by decide)
theorem asc_list {ts : List Str} (h : ∀ t ∈ ts, Asc t) : Asc (listText ts) := by
  unfold listText
  exact (asc_textFrom ts 0 _ h (asc_lit (by decide))).app (asc_lit (by decide))
theorem asc_tuple {ts : List Str} (h : ∀ t ∈ ts, Asc t) : Asc (tupleText ts) := by
  unfold tupleText
  refine ((show Asc (Str.ofString "(") from asc_lit (by decide)).app (Asc.join (asc_lit (by decide)) h)).app ?_
  split <;> exact asc_lit (by decide)
theorem asc_dict {ts : List Str} (h : ∀ t ∈ ts, Asc t) : Asc (dictText ts) := by
  unfold dictText
  exact ((show Asc (Str.ofString "{") from asc_lit (by decide)).app (Asc.join (asc_lit (by decide)) h)).app (asc_lit (by decide))
/-- what a data is for repr -/
structure Pd (d : D) (p : PyData) : Prop where
  e : pyr d = some p
  l : p.leavesShort 22 = true
  s : p.showable = true
  w : p.weight ≤ wt d
  d : p.depth ≤ dep d
  a : Asc p.shown
structure Pds (ds : List D) (ps : List PyData) : Prop where
  e : pyrs ds = some ps
  l : PyData.leavesShortAll 22 ps = true
  s : PyData.showableAll ps = true
  w : PyData.weightAll ps ≤ wts ds
  d : PyData.depthAll ps ≤ deps ds
  a : ∀ t ∈ PyData.shownAll ps, Asc t
theorem key_pd {N : Nat} (hN : N < 10 ^ 21) {k : Key} (h : keyOkB N k = true) : (keyP k).leavesShort 22 = true ∧ (keyP k).showable = true ∧ (keyP k).weight ≤ keyW k ∧ (keyP k).depth = 0 ∧ Asc (keyP k).shown := by
  cases k with
  | inl i =>
    have h' : i.natAbs ≤ N := of_decide_eq_true h
    obtain ⟨a, b⟩ := int_shown hN h'
    exact ⟨a, b, int_w hN h', by simp only [keyP, PyData.depth], by simp only [keyP, PyData.shown]; exact asc_int i⟩
  | inr x =>
    have h' := ascB_iff.mp h
    exact ⟨str_short h', rfl, Nat.le_refl _, rfl, by simp only [keyP, PyData.shown]; exact asc_reprText h'⟩
mutual
theorem lv_pd {N L : Nat} (hN : N < 10 ^ 21) : ∀ {d : D}, lvB N L d = true → ∃ p, Pd d p
  | .non, _ => ⟨.none, rfl, rfl, rfl, Nat.le_refl _, Nat.le_refl _, by simp only [PyData.shown]; exact asc_lit (by decide)⟩
  | .bl b, _ => ⟨.bool b, rfl, rfl, rfl, Nat.le_refl _, Nat.le_refl _, by simp only [PyData.shown]; cases b <;> exact asc_lit (by decide)⟩
  | .int i, h => by
    have h' : i.natAbs ≤ N := of_decide_eq_true h
    obtain ⟨a, b⟩ := int_shown hN h'
    exact ⟨.int i, rfl, a, b, by simp only [wt]; exact int_w hN h', by simp only [PyData.depth, dep, Nat.le_refl], by simp only [PyData.shown]; exact asc_int i⟩
  | .str x, h => by
    have h' : Asc x := ascB_iff.mp (by simpa only [lvB] using h)
    exact ⟨.str x, rfl, str_short h', rfl, Nat.le_refl _, Nat.le_refl _, by simp only [PyData.shown]; exact asc_reprText h'⟩
  | .tup ds, h => by
    obtain ⟨ps, q⟩ := lvs_pd hN (ds := ds) (by simp only [lvB, Bool.and_eq_true] at h; exact h.2)
    exact ⟨.tuple ps, by simp only [pyr, q.e, Option.map_some], by simp only [PyData.leavesShort]; exact q.l, by simp only [PyData.showable]; exact q.s, by simp only [PyData.weight, wt]; exact q.w, by simp only [PyData.depth, dep]; exact Nat.succ_le_succ q.d, by simp only [PyData.shown]; exact asc_tuple q.a⟩
  | .lst ds, h => by
    obtain ⟨ps, q⟩ := lvs_pd hN (ds := ds) (by simp only [lvB, Bool.and_eq_true] at h; exact h.2)
    exact ⟨.list ps, by simp only [pyr, q.e, Option.map_some], by simp only [PyData.leavesShort]; exact q.l, by simp only [PyData.showable]; exact q.s, by simp only [PyData.weight, wt]; exact q.w, by simp only [PyData.depth, dep]; exact Nat.succ_le_succ q.d, by simp only [PyData.shown]; exact asc_list q.a⟩
  | .dic ks ds, h => by
    simp only [lvB, Bool.and_eq_true, decide_eq_true_eq, List.all_eq_true] at h
    obtain ⟨⟨h1, h2⟩, h3⟩ := h
    obtain ⟨ps, q⟩ := lvs_pd hN (ds := ds) h3
    have hl := pyrs_len q.e
    have go : ∀ (ks : List Key) (ps : List PyData) (ds : List D), (∀ k ∈ ks, keyOkB N k = true) → ks.length = ps.length → PyData.leavesShortAll 22 ps = true → PyData.showableAll ps = true → (∀ t ∈ PyData.shownAll ps, Asc t) →
        PyData.leavesShortKv 22 ((ks.map keyP).zip ps) = true ∧ PyData.showableKv ((ks.map keyP).zip ps) = true ∧ PyData.weightKv ((ks.map keyP).zip ps) ≤ (ks.map fun k => keyW k + 1).sum + PyData.weightAll ps ∧ PyData.depthKv ((ks.map keyP).zip ps) = PyData.depthAll ps ∧ ∀ t ∈ PyData.shownKv ((ks.map keyP).zip ps), Asc t := by
      intro ks
      induction ks with
      | nil => intro ps ds _ hl _ _ _; cases ps with
        | nil => exact ⟨rfl, rfl, Nat.le_refl _, rfl, fun _ h => by simp [PyData.shownKv] at h⟩
        | cons _ _ => simp at hl
      | cons k ks ih => intro ps ds hk hl hs1 hs2 hs3; cases ps with
        | nil => simp at hl
        | cons p ps =>
          simp only [PyData.leavesShortAll, PyData.showableAll, Bool.and_eq_true] at hs1 hs2
          simp only [PyData.shownAll, List.mem_cons] at hs3
          obtain ⟨a1, a2, a3, a4, a5⟩ := ih ps ds (fun k hk' => hk k (List.mem_cons_of_mem _ hk')) (by simpa using hl) hs1.2 hs2.2 (fun t ht => hs3 t (.inr ht))
          obtain ⟨b1, b2, b3, b4, b5⟩ := key_pd hN (hk k (by simp))
          simp only [List.map_cons, List.zip_cons_cons, PyData.leavesShortKv, PyData.showableKv, PyData.weightKv, PyData.depthKv, PyData.shownKv, PyData.weightAll, PyData.depthAll, List.sum_cons, a1, a2, a4, b1, b2, b4, hs1.1, hs2.1]
          refine ⟨rfl, rfl, by omega, by omega, fun t ht => ?_⟩
          rcases List.mem_cons.mp ht with rfl | ht
          · exact (b5.app (asc_lit (by decide))).app (hs3 _ (.inl rfl))
          · exact a5 t ht
    obtain ⟨a1, a2, a3, a4, a5⟩ := go ks ps ds h1 (by omega) q.l q.s q.a
    exact ⟨.dict ((ks.map keyP).zip ps), by simp only [pyr, q.e, Option.map_some], by simp only [PyData.leavesShort]; exact a1, by simp only [PyData.showable]; exact a2, by simp only [PyData.weight, wt]; exact Nat.le_trans a3 (Nat.add_le_add_left q.w _), by simp only [PyData.depth, dep, a4]; exact Nat.succ_le_succ q.d, by simp only [PyData.shown]; exact asc_dict a5⟩
  | .ref _, h => by cases h
  | .fn _, h => by cases h
theorem lvs_pd {N L : Nat} (hN : N < 10 ^ 21) : ∀ {ds : List D}, lvsB N L ds = true → ∃ ps, Pds ds ps
  | [], _ => ⟨[], rfl, rfl, rfl, Nat.le_refl _, Nat.le_refl _, fun _ h => by simp [PyData.shownAll] at h⟩
  | d :: ds, h => by
    simp only [lvsB, Bool.and_eq_true] at h
    obtain ⟨p, q⟩ := lv_pd hN h.1
    obtain ⟨ps, qs⟩ := lvs_pd hN h.2
    refine ⟨p :: ps, by simp only [pyrs, q.e, qs.e], by simp only [PyData.leavesShortAll, q.l, qs.l, Bool.and_self], by simp only [PyData.showableAll, q.s, qs.s, Bool.and_self], ?_, ?_, fun t ht => ?_⟩
    · simp only [PyData.weightAll, wts]; have := q.w; have := qs.w; omega
    · simp only [PyData.depthAll, deps]; have := q.d; have := qs.d; omega
    · simp only [PyData.shownAll, List.mem_cons] at ht
      rcases ht with rfl | ht
      · exact q.a
      · exact qs.a t ht
end
/-- data with numbers of at most N, of weight at most W, of depth at most k -/
structure Dt (N L W k : Nat) (d : D) : Prop where
  l : lvB N L d = true
  w : wt d ≤ W
  d : dep d ≤ k
theorem Dt.mono {N L W k N' L' W' k' : Nat} {d : D} (h : Dt N L W k d) (h1 : N ≤ N') (hL : L ≤ L') (h2 : W ≤ W') (h3 : k ≤ k') : Dt N' L' W' k' d := by
  refine ⟨?_, Nat.le_trans h.w h2, Nat.le_trans h.d h3⟩
  have hk : ∀ k : Key, keyOkB N k = true → keyOkB N' k = true := fun k hk => by
    cases k with
    | inl i => exact decide_eq_true (Nat.le_trans (of_decide_eq_true hk) h1)
    | inr x => exact hk
  have go : (∀ d, lvB N L d = true → lvB N' L' d = true) ∧ (∀ ds, lvsB N L ds = true → lvsB N' L' ds = true) := by
    constructor
    · intro d
      exact D.rec (motive_1 := fun d => lvB N L d = true → lvB N' L' d = true) (motive_2 := fun ds => lvsB N L ds = true → lvsB N' L' ds = true)
        (fun _ => rfl) (fun _ _ => rfl) (fun i h => decide_eq_true (Nat.le_trans (of_decide_eq_true h) h1)) (fun x h => by simpa only [lvB] using h)
        (fun ds ih h => by simp only [lvB, Bool.and_eq_true, decide_eq_true_eq] at h ⊢; exact ⟨Nat.le_trans h.1 hL, ih h.2⟩) (fun ds ih h => by simp only [lvB, Bool.and_eq_true, decide_eq_true_eq] at h ⊢; exact ⟨Nat.le_trans h.1 hL, ih h.2⟩)
        (fun ks ds ih h => by
          simp only [lvB, Bool.and_eq_true, List.all_eq_true] at h ⊢
          exact ⟨⟨fun k hk' => hk k (h.1.1 k hk'), h.1.2⟩, ih h.2⟩)
        (fun _ h => by cases h) (fun _ h => by cases h) (fun _ _ _ _ h => by simp [lvB] at h) (fun _ => rfl) (fun d ds i1 i2 h => by
          simp only [lvsB, Bool.and_eq_true] at h ⊢
          exact ⟨i1 h.1, i2 h.2⟩) d
    · intro ds
      exact D.rec_1 (motive_1 := fun d => lvB N L d = true → lvB N' L' d = true) (motive_2 := fun ds => lvsB N L ds = true → lvsB N' L' ds = true)
        (fun _ => rfl) (fun _ _ => rfl) (fun i h => decide_eq_true (Nat.le_trans (of_decide_eq_true h) h1)) (fun x h => by simpa only [lvB] using h)
        (fun ds ih h => by simp only [lvB, Bool.and_eq_true, decide_eq_true_eq] at h ⊢; exact ⟨Nat.le_trans h.1 hL, ih h.2⟩) (fun ds ih h => by simp only [lvB, Bool.and_eq_true, decide_eq_true_eq] at h ⊢; exact ⟨Nat.le_trans h.1 hL, ih h.2⟩)
        (fun ks ds ih h => by
          simp only [lvB, Bool.and_eq_true, List.all_eq_true] at h ⊢
          exact ⟨⟨fun k hk' => hk k (h.1.1 k hk'), h.1.2⟩, ih h.2⟩)
        (fun _ h => by cases h) (fun _ h => by cases h) (fun _ _ _ _ h => by simp [lvB] at h) (fun _ => rfl) (fun d ds i1 i2 h => by
          simp only [lvsB, Bool.and_eq_true] at h ⊢
          exact ⟨i1 h.1, i2 h.2⟩) ds
  exact go.1 d h.l
theorem Dt.dat {N L W k : Nat} {d : D} (h : Dt N L W k d) : datB d = true := lv_dat h.l
/-- its text -/
theorem Dt.shown {N L W k : Nat} {d : D} (h : Dt N L W k d) (hN : N < 10 ^ 21) (hW : W ≤ 600000) (hk : k ≤ 60) : ∃ t, shownD d = some t ∧ t.length ≤ 24 * W + 22 ∧ Asc t := by
  obtain ⟨p, q⟩ := lv_pd hN h.l
  have h1 := PyData.shown_le 22 (by decide) p q.l
  have h2 : 24 * p.weight ≤ 24 * W := Nat.mul_le_mul_left _ (Nat.le_trans q.w h.w)
  have h3 : p.shown.length ≤ sizeLine := by rw [sizeLine_eq]; omega
  have h4 := Nat.le_trans q.d h.d
  refine ⟨p.shown, ?_, by omega, q.a⟩
  unfold shownD
  simp only [q.e, q.s, decide_eq_true h3, decide_eq_true (Nat.le_trans h4 hk), Bool.and_self, if_true]
theorem wt_mem : ∀ {ds : List D} {d : D}, d ∈ ds → wt d ≤ wts ds
  | x :: ds, d, h => by
    rw [wts]
    rcases List.mem_cons.mp h with rfl | h
    · omega
    · have := wt_mem h; omega
theorem dt_tup {N L W k : Nat} {ds : List D} : Dt N L W (k + 1) (.tup ds) ↔ ds.length ≤ L ∧ (∀ d ∈ ds, Dt N L W k d) ∧ wts ds ≤ W := by
  constructor
  · rintro ⟨h1, h2, h3⟩
    simp only [lvB, Bool.and_eq_true, decide_eq_true_eq, lvsB_all, List.all_eq_true] at h1
    simp only [wt] at h2
    simp only [dep, Nat.succ_le_succ_iff] at h3
    have h3 := deps_le.mp h3
    exact ⟨h1.1, fun d hd => ⟨h1.2 d hd, Nat.le_trans (wt_mem hd) h2, h3 d hd⟩, h2⟩
  · rintro ⟨h1, h2, h3⟩
    refine ⟨?_, by simpa only [wt] using h3, by simp only [dep]; exact Nat.succ_le_succ (deps_le.mpr fun d hd => (h2 d hd).d)⟩
    simp only [lvB, Bool.and_eq_true, decide_eq_true_eq, lvsB_all, List.all_eq_true]
    exact ⟨h1, fun d hd => (h2 d hd).l⟩
theorem dt_lst {N L W k : Nat} {ds : List D} : Dt N L W (k + 1) (.lst ds) ↔ ds.length ≤ L ∧ (∀ d ∈ ds, Dt N L W k d) ∧ wts ds ≤ W := by
  have : Dt N L W (k + 1) (.lst ds) ↔ Dt N L W (k + 1) (.tup ds) := by
    constructor <;> (rintro ⟨h1, h2, h3⟩; exact ⟨by simpa only [lvB] using h1, by simpa only [wt] using h2, by simpa only [dep] using h3⟩)
  rw [this, dt_tup]
theorem dt_str {N L W k : Nat} {x : Str} : Dt N L W k (.str x) ↔ Asc x ∧ x.length ≤ W := ⟨fun ⟨h1, h2, _⟩ => ⟨ascB_iff.mp h1, h2⟩, fun ⟨h1, h2⟩ => ⟨ascB_iff.mpr h1, h2, Nat.zero_le _⟩⟩
theorem dt_int {N L W k : Nat} {i : Int} : Dt N L W k (.int i) ↔ i.natAbs ≤ N ∧ 70 ≤ W := ⟨fun ⟨h1, h2, _⟩ => ⟨of_decide_eq_true h1, h2⟩, fun ⟨h1, h2⟩ => ⟨decide_eq_true h1, h2, Nat.zero_le _⟩⟩
theorem dt_non {N L W k : Nat} : Dt N L W k .non := ⟨rfl, Nat.zero_le _, Nat.zero_le _⟩
theorem wts_app : ∀ (a b : List D), wts (a ++ b) = wts a + wts b
  | [], b => by simp [wts]
  | x :: a, b => by rw [List.cons_append, wts, wts, wts_app a b]; omega
end G

set_option Elab.async false
set_option linter.all false
set_option maxRecDepth 1000000
set_option maxHeartbeats 4000000
/-! GH: dicts keyed by rows, as the library tells them. -/
namespace G
variable [Wld]
open PySem PySem.Spec PyProof.Rows L2
theorem nks_cons {d : D} {ds : List D} {qs : List NestedKey} (h : nks (d :: ds) = some qs) : ∃ p ps, nk d = some p ∧ nks ds = some ps ∧ qs = p :: ps := by
  unfold nks at h
  split at h
  · cases h; exact ⟨_, _, by assumption, by assumption, rfl⟩
  · cases h
section
variable {H : Hp} {ι : List Addr} {X : Cx} {pins : List (Addr × PySem.Obj)} {σ : SV} {s : Shared}
mutual
theorem RD.nest (I : Inv X pins σ H s) : ∀ (d : D) (v : V) (u : Value) (k : NestedKey), RD X.K H ι v d → RelV v u → nk d = some k → NestedIs s.heap k u
  | .non, _, _, _, h, r, e => by cases h; cases r; cases e; exact .none
  | .bl b, _, _, _, h, r, e => by cases e
  | .int i, _, _, _, h, r, e => by cases h; obtain ⟨t, rfl⟩ := r; cases e; exact .int i t
  | .str x, _, _, _, h, r, e => by cases h; obtain ⟨t, rfl⟩ := r; cases e; exact .text x t
  | .tup ds, _, _, _, h, r, e => by
    obtain ⟨ps, e1, e2⟩ := Option.map_eq_some_iff.mp (show (nks ds).map NestedKey.tup = some _ from e)
    subst e2
    cases h with | tup h1 h2 =>
    cases r
    obtain ⟨its, rv, ⟨o, g, c, n, dd⟩, _⟩ := I.tuple h1.sq
    exact .tup g c dd (by simpa using RDs.nest I ds _ _ _ h2 rv e1)
  | .lst ds, _, _, _, h, r, e => by cases e
  | .dic _ _, _, _, _, _, _, e => by cases e
  | .ref _, _, _, _, _, _, e => by cases e
  | .fn _, _, _, _, _, _, e => by cases e
theorem RDs.nest (I : Inv X pins σ H s) : ∀ (ds : List D) (vs : List V) (us : List Value) (ks : List NestedKey), RDs X.K H ι vs ds → Vals vs us → nks ds = some ks → NestedAll s.heap ks us
  | [], _, _, _, h, r, e => by cases h; cases r; cases e; exact .nil
  | d :: ds, _, _, _, h, r, e => by
    obtain ⟨p, ps, e1, e2, rfl⟩ := nks_cons e
    cases h with | cons h1 h2 =>
    cases r with | cons r1 r2 =>
    exact .cons (RD.nest I d _ _ p h1 r1 e1) (RDs.nest I ds _ _ ps h2 r2 e2)
end
theorem paired_memL {α β : Type} {R : α → β → Prop} : ∀ {l : List α} {m : List β} {a : α}, Paired R l m → a ∈ l → ∃ b ∈ m, R a b
  | _, _, _, .nil, h => by cases h
  | x :: l, y :: m, a, .cons r t, h => by
    rcases List.mem_cons.mp h with rfl | h
    · exact ⟨y, by simp, r⟩
    · obtain ⟨b, h1, h2⟩ := paired_memL t h
      exact ⟨b, by simp [h1], h2⟩
/-- where a row stands -/
def adV : Value → Addr
  | .ref a => a
  | _ => 0
theorem nk_leaf {d : D} {k : NestedKey} (h : nk d = some k) (hk : ktup k = false) : d = .non ∧ k = .none ∨ (∃ i, d = .int i ∧ k = .num i) ∨ ∃ x, d = .str x ∧ k = .text x := by
  cases d with
  | non => cases h; exact .inl ⟨rfl, rfl⟩
  | int i => cases h; exact .inr (.inl ⟨i, rfl, rfl⟩)
  | str x => cases h; exact .inr (.inr ⟨x, rfl, rfl⟩)
  | tup ds => obtain ⟨ps, e1, rfl⟩ := Option.map_eq_some_iff.mp (show (nks ds).map NestedKey.tup = some _ from h); cases hk
  | _ => cases h
theorem nk_row {d : D} {k : NestedKey} (h : nk d = some k) (hk : ktup k = true) : ∃ ds, d = .tup ds := by
  cases d with
  | tup ds => exact ⟨ds, rfl⟩
  | non => cases h; cases hk
  | int i => cases h; cases hk
  | str x => cases h; cases hk
  | _ => cases h
theorem lf_key {k : NestedKey} (hk : ktup k = false) : (lfOf k).key = k := by
  cases k <;> first | rfl | cases hk
theorem lf_inj {a b : NestedKey} (ha : ktup a = false) (hb : ktup b = false) (h : lfOf a = lfOf b) : a = b := by
  rw [← lf_key ha, ← lf_key hb, h]
theorem lf_is {K : PySem.W.Frag} {d : D} {k : NestedKey} {v : V} {u : Value} (h : nk d = some k) (hk : ktup k = false) (r : RD K H ι v d) (rv : RelV v u) : Leaf.isOf (lfOf k) u = true := by
  rcases nk_leaf h hk with ⟨rfl, rfl⟩ | ⟨i, rfl, rfl⟩ | ⟨x, rfl, rfl⟩
  · cases r; cases rv; rfl
  · cases r; obtain ⟨t, rfl⟩ := rv; show decide (i = i) = true; exact decide_eq_true rfl
  · cases r; obtain ⟨t, rfl⟩ := rv; show Value.isStrOf x (.str x t) = true; simp [Value.isStrOf]
def pj (x : NestedKey × Value × V × Value) : NestedKey × Addr × Value := (x.1, adV x.2.1, x.2.2.2)
def pjL (x : NestedKey × Value × V × Value) : Leaf × Value := (lfOf x.1, x.2.2.2)
section
variable {a : Addr} {kvs : List (D × D)} {o : PySem.Obj} {es : Array DictEntry} {ep : Nat} {xs : List (NestedKey × Value × V × Value)}
theorem KdAt.row (h : KdAt X.K H ι a kvs o es ep xs) {x : NestedKey × Value × V × Value} (hx : x ∈ xs) (ht : ktup x.1 = true) : x.2.1 = .ref (adV x.2.1) ∧ ∃ q y, nk q = some x.1 ∧ RelV y x.2.1 ∧ RD X.K H ι y q := by
  obtain ⟨q, _, h1, h2, _⟩ := paired_memL h.pr hx
  rcases h2 with ⟨_, y, r, d⟩ | ⟨z, _⟩
  · obtain ⟨ds, e⟩ := nk_row h1 ht
    refine ⟨?_, q.1, y, h1, r, d⟩
    rw [e] at d
    cases d with | tup g1 g2 =>
    rw [show x.2.1 = _ from r]; rfl
  · rw [ht] at z; cases z
theorem KdAt.dictT (I : Inv X pins σ H s) (hw : X.w = Wld.w) (h : KdAt X.K H ι a kvs o es ep xs) (ht : ∀ x ∈ xs, ktup x.1 = true) : s.heap.DictOfH (nestedKind X.prog X.w) a (xs.map pj) := by
  refine ⟨o, es, ep, (I.hok a _ h.at_).1, h.ex, h.dt, ?_, fun y hy => ?_, ?_⟩
  · rw [h.en, List.map_map]
    refine List.map_congr_left fun x hx => ?_
    show _ = entryOfKey _ _
    unfold entryOfKey pj
    rw [← hw, ← (h.row hx (ht x hx)).1]
    rfl
  · obtain ⟨x, hx, rfl⟩ := List.mem_map.mp hy
    obtain ⟨e, q, y, h1, r, d⟩ := h.row hx (ht x hx)
    refine ⟨?_, h.dp x hx⟩
    show NestedIs s.heap x.1 (.ref (adV x.2.1))
    rw [← e]
    exact RD.nest I _ _ _ _ d r h1
  · rw [List.map_map]
    exact h.nd
theorem pairs_l {w : World} {P : Program} : ∀ {xs : List (NestedKey × Value × V × Value)}, (∀ x ∈ xs, Leaf.isOf (lfOf x.1) x.2.1 = true) → Pairs (leafKind P w) (xs.map fun x => (⟨x.1.hash Wld.w, x.2.1, x.2.2.2⟩ : DictEntry)) (xs.map pjL)
  | [], _ => .nil
  | x :: xs, h => .cons (h x (by simp)) rfl (pairs_l fun y hy => h y (by simp [hy]))
theorem nodup_lf : ∀ {xs : List (NestedKey × Value × V × Value)}, (∀ x ∈ xs, ktup x.1 = false) → (xs.map (·.1)).Nodup → ((xs.map pjL).map (·.1)).Nodup
  | [], _, _ => List.nodup_nil
  | x :: xs, h, n => by
    rw [List.map_cons, List.nodup_cons] at n
    rw [List.map_cons, List.map_cons, List.nodup_cons]
    refine ⟨fun z => ?_, nodup_lf (fun y hy => h y (by simp [hy])) n.2⟩
    obtain ⟨p, hp, e⟩ := List.mem_map.mp z
    obtain ⟨y, hy, rfl⟩ := List.mem_map.mp hp
    refine n.1 (List.mem_map.mpr ⟨y, hy, ?_⟩)
    exact lf_inj (h y (by simp [hy])) (h x (by simp)) e
theorem KdAt.leaf (h : KdAt X.K H ι a kvs o es ep xs) (ht : ∀ x ∈ xs, ktup x.1 = false) : ∀ x ∈ xs, Leaf.isOf (lfOf x.1) x.2.1 = true := fun x hx => by
  obtain ⟨q, _, h1, h2, _⟩ := paired_memL h.pr hx
  rcases h2 with ⟨z, _⟩ | ⟨_, z⟩
  · rw [ht x hx] at z; cases z
  · exact z
theorem KdAt.dictL (I : Inv X pins σ H s) (hw : X.w = Wld.w) (h : KdAt X.K H ι a kvs o es ep xs) (ht : ∀ x ∈ xs, ktup x.1 = false) : s.heap.DictOf (leafKind X.prog X.w) a (xs.map pjL) := by
  refine ⟨o, es, ep, (I.hok a _ h.at_).1, h.ex, h.dt, fun e he => ?_, ?_, nodup_lf ht h.nd⟩
  · have he' : e ∈ es.toList := Array.mem_toList_iff.mpr he
    rw [h.en] at he'
    obtain ⟨x, hx, rfl⟩ := List.mem_map.mp he'
    refine ⟨lfOf x.1, h.leaf ht x hx, ?_⟩
    show x.1.hash Wld.w = (lfOf x.1).key.hash X.w
    rw [lf_key (ht x hx), hw]
  · rw [h.en]; exact pairs_l (h.leaf ht)
end
end
end G

set_option Elab.async false
set_option linter.all false
set_option maxRecDepth 1000000
set_option maxHeartbeats 4000000
/-! GHA: dicts keyed by rows: an entry set, looked for, displays by comprehensions. -/
namespace G
variable [Wld]
open PySem PySem.Spec PyProof.Rows L2
def valKd (kvs : List (D × D)) (k : NestedKey) : Option D := (kvs.find? fun q => decide (nk q.1 = some k)).map (·.2)
def setKd (k : NestedKey) (d : D) (q : D × D) : D × D := if nk q.1 = some k then (q.1, d) else q
def putKd (kvs : List (D × D)) (kd : D) (k : NestedKey) (d : D) : List (D × D) := if (valKd kvs k).isSome then kvs.map (setKd k d) else kvs ++ [(kd, d)]
theorem putKd_len (kvs : List (D × D)) (kd : D) (k : NestedKey) (d : D) : (putKd kvs kd k d).length ≤ kvs.length + 1 := by
  unfold putKd
  split <;> simp
abbrev X4 := NestedKey × Value × V × Value
def set4 (k : NestedKey) (v : V) (r : Value) (x : X4) : X4 := if x.1 = k then (x.1, x.2.1, v, r) else x
def has4 (xs : List X4) (k : NestedKey) : Option X4 := xs.find? fun x => decide (x.1 = k)
def store4 (xs : List X4) (k : NestedKey) (b : Value) (v : V) (r : Value) : List X4 := if (has4 xs k).isSome then xs.map (set4 k v r) else xs ++ [(k, b, v, r)]
theorem at_pjL {k : NestedKey} (hk : ktup k = false) : ∀ {xs : List X4}, (∀ x ∈ xs, ktup x.1 = false) → valueAt (xs.map pjL) (lfOf k) = (has4 xs k).map fun x => x.2.2.2
  | [], _ => rfl
  | x :: xs, h => by
    have ih := at_pjL hk (xs := xs) fun y hy => h y (by simp [hy])
    unfold valueAt has4 at ih ⊢
    rw [List.map_cons, List.find?_cons, List.find?_cons]
    by_cases e : x.1 = k
    · have e2 : (pjL x).1 = lfOf k := by rw [← e]; rfl
      rw [decide_eq_true e2, decide_eq_true e]; rfl
    · have e2 : ¬ (pjL x).1 = lfOf k := fun z => e (lf_inj (h x (by simp)) hk z)
      rw [decide_eq_false e2, decide_eq_false e]; exact ih
theorem paired_find {α β : Type} {R : α → β → Prop} {P : α → Bool} {Q : β → Bool} : ∀ {l : List α} {m : List β}, Paired R l m → (∀ a b, R a b → P a = Q b) → (l.find? P = none ∧ m.find? Q = none) ∨ ∃ a b, l.find? P = some a ∧ m.find? Q = some b ∧ R a b
  | _, _, .nil, _ => .inl ⟨rfl, rfl⟩
  | a :: l, b :: m, .cons r t, e => by
    have h := e a b r
    cases hq : Q b with
    | true => exact .inr ⟨a, b, by rw [List.find?_cons_of_pos (h.trans hq)], by rw [List.find?_cons_of_pos hq], r⟩
    | false =>
      rcases paired_find t e with ⟨z1, z2⟩ | ⟨a', b', z1, z2, z3⟩
      · exact .inl ⟨by rw [List.find?_cons_of_neg (by rw [h, hq]; decide)]; exact z1, by rw [List.find?_cons_of_neg (by rw [hq]; decide)]; exact z2⟩
      · exact .inr ⟨a', b', by rw [List.find?_cons_of_neg (by rw [h, hq]; decide)]; exact z1, by rw [List.find?_cons_of_neg (by rw [hq]; decide)]; exact z2, z3⟩
theorem paired_map {α β γ δ : Type} {R : α → β → Prop} {S : γ → δ → Prop} {f : α → γ} {g : β → δ} : ∀ {l : List α} {m : List β}, Paired R l m → (∀ a b, R a b → S (f a) (g b)) → Paired S (l.map f) (m.map g)
  | _, _, .nil, _ => .nil
  | _, _, .cons r t, e => .cons (e _ _ r) (paired_map t e)
theorem paired_snoc {α β : Type} {R : α → β → Prop} {a : α} {b : β} : ∀ {l : List α} {m : List β}, Paired R l m → R a b → Paired R (l ++ [a]) (m ++ [b])
  | _, _, .nil, r => .cons r .nil
  | _, _, .cons r t, q => .cons r (paired_snoc t q)
def Pr4 (K : PySem.W.Frag) (H : Hp) (ι : List Addr) (x : X4) (q : D × D) : Prop := nk q.1 = some x.1 ∧ KyR K H ι x.1 x.2.1 q.1 ∧ RelV x.2.2.1 x.2.2.2 ∧ RD K H ι x.2.2.1 q.2
theorem Pr4.find {K : PySem.W.Frag} {H : Hp} {ι : List Addr} {xs : List X4} {kvs : List (D × D)} (h : Paired (Pr4 K H ι) xs kvs) (k : NestedKey) : (has4 xs k = none ∧ valKd kvs k = none) ∨ ∃ x d, has4 xs k = some x ∧ valKd kvs k = some d ∧ x.1 = k ∧ RelV x.2.2.1 x.2.2.2 ∧ RD K H ι x.2.2.1 d := by
  have e : ∀ (a : X4) (b : D × D), Pr4 K H ι a b → (decide (a.1 = k)) = decide (nk b.1 = some k) := fun a b r => by
    rw [r.1]; simp
  rcases paired_find h e with ⟨z1, z2⟩ | ⟨a, b, z1, z2, z3⟩
  · exact .inl ⟨z1, by unfold valKd; rw [z2]; rfl⟩
  · refine .inr ⟨a, b.2, z1, by unfold valKd; rw [z2]; rfl, ?_, z3.2.2.1, z3.2.2.2⟩
    have := List.find?_some z1
    simpa using this
theorem Pr4.put {K : PySem.W.Frag} {H : Hp} {ι : List Addr} {xs : List X4} {kvs : List (D × D)} (h : Paired (Pr4 K H ι) xs kvs) {k : NestedKey} {kd d : D} {b : Value} {v : V} {r : Value} (hk : nk kd = some k) (rk : KyR K H ι k b kd) (rr : RelV v r) (rv : RD K H ι v d) :
    Paired (Pr4 K H ι) (store4 xs k b v r) (putKd kvs kd k d) := by
  have e : (has4 xs k).isSome = (valKd kvs k).isSome := by
    rcases Pr4.find h k with ⟨z1, z2⟩ | ⟨x, d', z1, z2, _⟩ <;> rw [z1, z2] <;> rfl
  unfold store4 putKd
  rw [e]
  split
  · refine paired_map h fun a q z => ?_
    unfold set4 setKd
    by_cases hk' : a.1 = k
    · rw [if_pos hk', if_pos (by rw [z.1, hk'])]
      exact ⟨z.1, z.2.1, rr, rv⟩
    · rw [if_neg hk', if_neg (by rw [z.1]; intro h; exact hk' (Option.some.inj h))]
      exact z
  · exact paired_snoc h ⟨hk, rk, rr, rv⟩
theorem store4_len {xs : List X4} {k b v r} : (store4 xs k b v r).length ≤ xs.length + 1 := by
  unfold store4
  split <;> simp
theorem store4_mem {P : NestedKey → Prop} {xs : List X4} {k b v r} (h : ∀ x ∈ xs, P x.1) (hk : P k) : ∀ x ∈ store4 xs k b v r, P x.1 := by
  intro x hx
  unfold store4 at hx
  split at hx
  · obtain ⟨y, hy, rfl⟩ := List.mem_map.mp hx
    unfold set4
    split <;> exact h y hy
  · rcases List.mem_append.mp hx with hx | hx
    · exact h x hx
    · cases List.mem_singleton.mp hx; exact hk
theorem paired_pick {α β γ : Type} {R : α → β → Prop} {T : β → γ → Prop} {U : α → γ → Prop} (go : ∀ a b c, R a b → T b c → U a c) : ∀ {l : List α} {m : List β} {n : List γ}, Paired R l m → Paired T m n → Paired U l n
  | _, _, _, .nil, .nil => .nil
  | _, _, _, .cons r rs, .cons t ts => .cons (go _ _ _ r t) (paired_pick go rs ts)
theorem paired_refl {α : Type} {R : α → α → Prop} (h : ∀ a, R a a) : ∀ {l : List α}, Paired R l l
  | [] => .nil
  | _ :: _ => .cons (h _) (paired_refl h)
theorem nodup_of_map {α β : Type} {f : α → β} : ∀ {l : List α}, (l.map f).Nodup → l.Nodup
  | [], _ => List.nodup_nil
  | a :: l, h => by
    rw [List.map_cons, List.nodup_cons] at h
    exact List.nodup_cons.mpr ⟨fun z => h.1 (List.mem_map_of_mem z), nodup_of_map h.2⟩
/-- what the library tells of a dict keyed by worths, as entries -/
theorem leaf_back {P : Program} {w : World} : ∀ {es : List DictEntry} {ys : List X4}, Pairs (leafKind P w) es (ys.map pjL) → (∀ e ∈ es, ∃ k, (leafKind P w).is k e.key = true ∧ e.hash = (leafKind P w).hash k) → (∀ y ∈ ys, ktup y.1 = false) →
    ∃ xs : List X4, es = xs.map (fun x => (⟨x.1.hash w, x.2.1, x.2.2.2⟩ : DictEntry)) ∧ Paired (fun x y => x.1 = y.1 ∧ x.2.2 = y.2.2 ∧ ktup y.1 = false ∧ Leaf.isOf (lfOf x.1) x.2.1 = true) xs ys
  | [], [], _, _, _ => ⟨[], rfl, .nil⟩
  | e :: es, [], p, _, _ => by cases p
  | [], y :: ys, p, _, _ => by cases p
  | e :: es, y :: ys, p, hk, hy => by
    cases p with | cons h1 h2 h3 =>
    obtain ⟨xs, e1, e2⟩ := leaf_back h3 (fun e he => hk e (List.mem_cons_of_mem _ he)) fun z hz => hy z (List.mem_cons_of_mem _ hz)
    refine ⟨(y.1, e.key, y.2.2) :: xs, ?_, .cons ⟨rfl, rfl, hy y (by simp), h1⟩ e2⟩
    rw [List.map_cons, ← e1]
    obtain ⟨k, g1, g2⟩ := hk e (by simp)
    have ek : k = lfOf y.1 := (leafKind P w).inj _ _ _ g1 h1
    have eh : e.hash = y.1.hash w := by
      rw [g2, ek]
      show (lfOf y.1).key.hash w = _
      rw [lf_key (hy y (by simp))]
    have ev : e.val = y.2.2.2 := h2
    obtain ⟨a, b, c⟩ := e
    cases eh; cases ev
    rfl
theorem fst_eq : ∀ {xs ys : List X4} {R : X4 → X4 → Prop}, (∀ x y, R x y → x.1 = y.1) → Paired R xs ys → xs.map (·.1) = ys.map (·.1)
  | _, _, _, _, .nil => rfl
  | _, _, _, h, .cons r t => by rw [List.map_cons, List.map_cons, h _ _ r, fst_eq h t]
/-- is it a row -/
def kT : D → Bool
  | .tup _ => true
  | _ => false
theorem kT_eq {d : D} {k : NestedKey} (h : nk d = some k) : kT d = ktup k := by
  cases hk : ktup k with
  | true => obtain ⟨ds, rfl⟩ := nk_row h hk; rfl
  | false => rcases nk_leaf h hk with ⟨rfl, _⟩ | ⟨i, rfl, _⟩ | ⟨x, rfl, _⟩ <;> rfl
/-- keys of one kind: rows, or worths -/
def sameT (kvs : List (D × D)) (y : D) : Bool := kvs.all fun q => kT q.1 == kT y
theorem sameT_x {K : PySem.W.Frag} {H : Hp} {ι : List Addr} : ∀ {xs : List X4} {kvs : List (D × D)} {y : D} {k : NestedKey}, Paired (Pr4 K H ι) xs kvs → sameT kvs y = true → nk y = some k → ∀ x ∈ xs, ktup x.1 = ktup k
  | _, _, y, k, p, h, hy, x, hx => by
    obtain ⟨q, hq, h1, _⟩ := paired_memL p hx
    have := List.all_eq_true.mp h q hq
    rw [← kT_eq h1, ← kT_eq hy]
    simpa using this
section
variable {H : Hp} {ι : List Addr} {X : Cx} {pins : List (Addr × PySem.Obj)} {σ : SV} {s : Shared}
theorem KdAt.pj {a : Addr} {kvs : List (D × D)} {o : PySem.Obj} {es : Array DictEntry} {ep : Nat} {xs : List X4} (h : KdAt X.K H ι a kvs o es ep xs) : Paired (Pr4 X.K H ι) xs kvs := h.pr
theorem KdAt.len {a : Addr} {kvs : List (D × D)} {o : PySem.Obj} {es : Array DictEntry} {ep : Nat} {xs : List X4} (h : KdAt X.K H ι a kvs o es ep xs) : xs.length = kvs.length := Paired.length h.pr
theorem dct_ns {a : Addr} {o : PySem.Obj} {es : Array DictEntry} {ep : Nat} (h : o.data = .dict es ep) : NS a (exa a o) := exa_ns (fun vs z => by rw [h] at z; cases z) (fun z => by rw [h] at z; cases z) (fun _ z => by rw [h] at z; cases z) (fun _ z => by rw [h] at z; cases z)
/-- an entry is set: behind it -/
theorem KdAt.back {a : Addr} {kvs : List (D × D)} {o : PySem.Obj} {es : Array DictEntry} {ep : Nat} {xs : List X4} (I : Inv X pins σ H s) (hw : X.w = Wld.w) (h : KdAt X.K H ι a kvs o es ep xs) {kd d : D} {k : NestedKey} (hk : nk kd = some k) (hkd : k.depth ≤ 8) (hm : sameT kvs kd = true) {b : Value} {y v : V} {r : Value}
    (rb : RelV y b) (rk : RD X.K H ι y kd) (rv : RD X.K H ι v d) (rr : RelV v r) (hsz : kvs.length < sizeLine) {h' : Heap} {t' : Nat} (sb : Heap.SameBut a s.heap h')
    (dd : (ktup k = true → h'.DictOfH (nestedKind X.prog X.w) a ((store4 xs k b v r).map G.pj)) ∧ (ktup k = false → h'.DictOf (leafKind X.prog X.w) a ((store4 xs k b v r).map G.pjL))) :
    ∃ o', Inv X pins σ (upd H a (exa a o')) { s with heap := h', toks := t' } ∧ RO X.K (upd H a (exa a o')) ι a (.kd (putKd kvs kd k d)) ∧ Stay H (upd H a (exa a o')) := by
  have hms := sameT_x h.pr hm hk
  have hst : ∀ x ∈ store4 xs k b v r, ktup x.1 = ktup k := store4_mem (P := fun j => ktup j = ktup k) hms rfl
  have hdp : ∀ x ∈ store4 xs k b v r, x.1.depth ≤ 8 := store4_mem (P := fun k => k.depth ≤ 8) h.dp hkd
  have hl := h.len
  have hsl := store4_len (xs := xs) (k := k) (b := b) (v := v) (r := r)
  have key : ∀ {K' : Hp}, Stay H K' → KyR X.K K' ι k b kd := fun st => by
    cases ht : ktup k with
    | true => exact .inl ⟨ht, y, rb, RD.mono st ⟨[], by simp⟩ _ _ rk⟩
    | false => exact .inr ⟨ht, lf_is hk ht rk rb⟩
  have pr4 : ∀ {K' : Hp}, Stay H K' → Paired (Pr4 X.K K' ι) (store4 xs k b v r) (putKd kvs kd k d) := fun st =>
    Pr4.put (Paired.mapP h.pr fun x p z => ⟨z.1, z.2.1.mono st ⟨[], by simp⟩, z.2.2.1, RD.mono st ⟨[], by simp⟩ _ _ z.2.2.2⟩) hk (key st) rr (RD.mono st ⟨[], by simp⟩ _ _ rv)
  have fin : ∀ (o' : PySem.Obj) (es' : Array DictEntry) (ep' : Nat) (xs' : List X4), h'.get? a = some o' → o'.ExactDict → o'.data = .dict es' ep' → es'.toList = xs'.map (fun x => (⟨x.1.hash Wld.w, x.2.1, x.2.2.2⟩ : DictEntry)) →
      Paired (fun x y => x.1 = y.1 ∧ x.2.2 = y.2.2 ∧ (x.2.1 = y.2.1 ∨ ktup y.1 = false ∧ Leaf.isOf (lfOf y.1) x.2.1 = true)) xs' (store4 xs k b v r) → ((store4 xs k b v r).map (·.1)).Nodup →
      ∃ o', Inv X pins σ (upd H a (exa a o')) { s with heap := h', toks := t' } ∧ RO X.K (upd H a (exa a o')) ι a (.kd (putKd kvs kd k d)) ∧ Stay H (upd H a (exa a o')) := fun o' es' ep' xs' g1 g2 g3 g4 g5 g6 => by
    have st : Stay H (upd H a (exa a o')) := Stay.mut h.at_ (fun _ z => nomatch z) (fun _ _ z => nomatch z) (dct_ns h.dt) (dct_ns g3).2.2.2
    have ef : xs'.map (·.1) = (store4 xs k b v r).map (·.1) := fst_eq (fun _ _ z => z.1) g5
    have hmem : ∀ {P : NestedKey → Prop}, (∀ x ∈ store4 xs k b v r, P x.1) → ∀ x ∈ xs', P x.1 := fun hP x hx => by
      obtain ⟨y, hy, e, _⟩ := paired_memL g5 hx
      rw [e]; exact hP y hy
    refine ⟨o', d_write I (by rw [h.at_]; trivial) sb ⟨o', g1⟩ ⟨g1, ⟨o', g1⟩, fun h1 h2 e1 st => st _ e1⟩, ⟨o', es', ep', xs', upd_same, g2, g3, g4, by rw [ef]; exact g6, ?_, h.sm, hmem (P := fun k => k.depth ≤ 8) hdp, ⟨ktup k, hmem (P := fun j => ktup j = ktup k) hst⟩, ?_⟩, st⟩
    · have := Paired.length g5
      omega
    · refine paired_pick (fun x y q z1 z2 => ?_) g5 (pr4 st)
      obtain ⟨x1, x2, x3⟩ := x
      obtain ⟨y1, y2, y3⟩ := y
      obtain ⟨e1, e2, e3⟩ := z1
      dsimp only at e1 e2 e3
      subst e1 e2
      refine ⟨z2.1, ?_, z2.2.2⟩
      rcases e3 with e3 | ⟨e3, e4⟩
      · rw [show x2 = y2 from e3]; exact z2.2.1
      · exact .inr ⟨e3, e4⟩
  cases ht : ktup k with
  | true =>
    obtain ⟨o', es', ep', g1, g2, g3, g4, g5, g6⟩ := dd.1 ht
    rw [List.map_map] at g6
    refine fin o' es' ep' (store4 xs k b v r) g1 g2 g3 ?_ (paired_refl fun x => ⟨rfl, rfl, .inl rfl⟩) g6
    rw [g4, List.map_map]
    refine List.map_congr_left fun x hx => ?_
    show entryOfKey _ _ = _
    unfold entryOfKey G.pj
    obtain ⟨q, _, h1, h2, _⟩ := paired_memL (pr4 (.refl H)) hx
    have e : x.2.1 = .ref (adV x.2.1) := by
      rcases h2 with ⟨_, y, r, z⟩ | ⟨z, _⟩
      · obtain ⟨ds, e⟩ := nk_row h1 ((hst x hx).trans ht)
        rw [e] at z
        cases z with | tup g1 g2 =>
        rw [show x.2.1 = _ from r]; rfl
      · rw [(hst x hx).trans ht] at z; cases z
    rw [← hw]
    show (⟨_, .ref (adV x.2.1), _⟩ : DictEntry) = _
    rw [← e]
    rfl
  | false =>
    obtain ⟨o', es', ep', g1, g2, g3, g4, g5, g6⟩ := dd.2 ht
    obtain ⟨xs', e1, e2⟩ := leaf_back g5 (fun e he => g4 e (Array.mem_toList_iff.mp he)) fun y hy => (hst y hy).trans ht
    refine fin o' es' ep' xs' g1 g2 g3 (by rw [e1, hw]) (Paired.mapP e2 fun x y z => ⟨z.1, z.2.1, .inr ⟨z.2.2.1, z.1 ▸ z.2.2.2⟩⟩) ?_
    rw [List.map_map] at g6
    refine nodup_of_map (f := lfOf) ?_
    rw [List.map_map]
    exact g6
theorem KdAt.dict {a : Addr} {kvs : List (D × D)} {o : PySem.Obj} {es : Array DictEntry} {ep : Nat} {xs : List X4} (I : Inv X pins σ H s) (hw : X.w = Wld.w) (h : KdAt X.K H ι a kvs o es ep xs) {kd : D} {k : NestedKey} (hk : nk kd = some k) (hm : sameT kvs kd = true) :
    (ktup k = true → s.heap.DictOfH (nestedKind X.prog X.w) a (xs.map G.pj)) ∧ (ktup k = false → s.heap.DictOf (leafKind X.prog X.w) a (xs.map G.pjL)) :=
  ⟨fun e => h.dictT I hw fun x hx => (sameT_x h.pr hm hk x hx).trans e, fun e => h.dictL I hw fun x hx => (sameT_x h.pr hm hk x hx).trans e⟩
end
/-- the object of a new dict -/
abbrev newD : PySem.Obj := { cls := .type "dict", data := .dict #[] }
end G

set_option Elab.async false
set_option linter.all false
set_option maxRecDepth 1000000
set_option maxHeartbeats 4000000
/-! GHB: dicts keyed by rows: comprehensions. -/
namespace G
variable [Wld]
open PySem PySem.Spec PyProof.Rows L2
/-- an entry can be set in the dict at D, and so Nx holds -/
def KSet (K : PySem.W.Frag) (D : Addr) (y z : V) (H5 : Hp) (Nx : Hp → Prop) : Prop :=
  ∀ (X : Cx) (pins : List (Addr × PySem.Obj)) (σ : SV) (s : Shared) (u r : Value) (E : Value → Shared → Prop) (Q : Unit → Shared → Prop),
    X.K = K → X.w = Wld.w → X.A.units + 8 < cLine → Inv X pins σ H5 s → RelV y u → RelV z r →
    (∀ H' s', Inv X pins σ H' s' → Nx H' → Q () s') → wpAny (model X.prog X.w) X.A (dictSet D u r) Q E s
/-- {k: v for .. in .. if ..}, the entries set as KSet tells -/
def tDcK (K : PySem.W.Frag) (wi : TI) (g : TG) (tt : TT) (tk tv : TE) (vs : List Nat) : TE := fun σ H Q =>
  wi σ H fun J H1 => ∀ D, H1 D = none → (D == sysModules) = false →
    ∃ W : Nat → Nat → Hp → Prop, (∃ m, W 0 m (upd H1 D (exa D newD))) ∧ ∀ i m H, W i m H →
      (J.stop i H ∧ Q (.ref D) H) ∨
      (J.go i H ∧ ∃ Nx : Hp → Prop, (∀ H', Nx H' → ∃ m', m' < m ∧ W (i + 1) m' H') ∧
        ∀ x H', J.yld i H x H' → g x (L2.wipe σ vs) H' fun σ2 H2 => L2.wipe σ2 vs = L2.wipe σ vs ∧
          tt σ2 H2 fun b H3 => if b = true then tk σ2 H3 fun y H4 => tv σ2 H4 fun z H5 => KSet K D y z H5 Nx else Nx H3)
section
variable {X : Cx}
end
end G

set_option Elab.async false
set_option linter.all false
set_option maxRecDepth 1000000
set_option maxHeartbeats 4000000
/-! GHC: dicts keyed by rows: the mirror of a comprehension; in, not in; get. -/
namespace G
variable [Wld]
open PySem PySem.Spec PyProof.Rows L2
/-- what may be a key of a dict keyed by rows or worths -/
def rk (d : D) : Option NestedKey := (nk d).bind fun k => if k.depth ≤ 8 then some k else none
abbrev Tr := D × NestedKey × D
def kdsOf : List D → Option (List Tr)
  | [] => some []
  | .tup [kd, vd] :: ds => (rk kd).bind fun k => (kdsOf ds).map ((kd, k, vd) :: ·)
  | _ => none
def mergeKd (kvs : List (D × D)) (ps : List Tr) : List (D × D) := ps.foldl (fun a p => putKd a p.1 p.2.1 p.2.2) kvs
theorem mergeKd_len : ∀ (ps : List Tr) (kvs : List (D × D)), (mergeKd kvs ps).length ≤ kvs.length + ps.length
  | [], kvs => by simp [mergeKd]
  | p :: ps, kvs => by
    have h := mergeKd_len ps (putKd kvs p.1 p.2.1 p.2.2)
    have h2 := putKd_len kvs p.1 p.2.1 p.2.2
    have e : mergeKd kvs (p :: ps) = mergeKd (putKd kvs p.1 p.2.1 p.2.2) ps := rfl
    rw [e, List.length_cons]
    omega
theorem kdsOf_cons {x : D} {xs : List D} {all : List Tr} (h : kdsOf (x :: xs) = some all) : ∃ kd vd k cs, x = .tup [kd, vd] ∧ rk kd = some k ∧ kdsOf xs = some cs ∧ all = (kd, k, vd) :: cs := by
  unfold kdsOf at h
  split at h
  · rename_i hh; cases hh
  · rename_i kd vd ds' hh
    cases hh
    obtain ⟨k, hk, h⟩ := Option.bind_eq_some_iff.mp h
    obtain ⟨cs, e1, e2⟩ := Option.map_eq_some_iff.mp h
    exact ⟨kd, vd, k, cs, rfl, hk, e1, e2.symm⟩
  · cases h
theorem kdsOf_mk {kd vd : D} {k : NestedKey} {xs : List D} {cs : List Tr} (hk : rk kd = some k) (h : kdsOf xs = some cs) : kdsOf (.tup [kd, vd] :: xs) = some ((kd, k, vd) :: cs) := by
  unfold kdsOf
  rw [hk, h]; rfl
theorem kdsOf_append : ∀ {xs ys : List D} {all : List Tr}, kdsOf (xs ++ ys) = some all → ∃ a b, kdsOf xs = some a ∧ kdsOf ys = some b ∧ all = a ++ b
  | [], ys, all, h => ⟨[], all, rfl, h, rfl⟩
  | x :: xs, ys, all, h => by
    obtain ⟨kd, vd, k, cs, rfl, hk, e1, rfl⟩ := kdsOf_cons (x := x) (xs := xs ++ ys) h
    obtain ⟨a, b, e3, e4, rfl⟩ := kdsOf_append e1
    exact ⟨_, b, kdsOf_mk hk e3, e4, rfl⟩
/-- all keys rows, or all worths -/
def kdOne (ps : List Tr) : Bool := ps.all (fun p => kT p.1) || ps.all (fun p => !kT p.1)
theorem putKd_keys {P : D → Prop} {kvs : List (D × D)} {kd d : D} {k : NestedKey} (h : ∀ q ∈ kvs, P q.1) (hk : P kd) : ∀ q ∈ putKd kvs kd k d, P q.1 := by
  intro q hq
  unfold putKd at hq
  split at hq
  · obtain ⟨p, hp, rfl⟩ := List.mem_map.mp hq
    unfold setKd
    split <;> exact h p hp
  · rcases List.mem_append.mp hq with hq | hq
    · exact h q hq
    · cases List.mem_singleton.mp hq; exact hk
theorem mergeKd_keys {P : D → Prop} : ∀ {ps : List Tr} {kvs : List (D × D)}, (∀ q ∈ kvs, P q.1) → (∀ p ∈ ps, P p.1) → ∀ q ∈ mergeKd kvs ps, P q.1
  | [], _, h, _ => h
  | p :: ps, kvs, h, hp => mergeKd_keys (ps := ps) (kvs := putKd kvs p.1 p.2.1 p.2.2) (putKd_keys h (hp p (by simp))) fun q hq => hp q (by simp [hq])
/-- {k: v for .. in .. if ..}, the keys rows or worths -/
noncomputable def mDcK (vs : List Nat) (t : Tgt) (mi : M Src) (c : M Bool) (mk mv : M R) : M R := bnd mi fun src => bnd (fun e S => compL vs t c (mKV mk mv) src.ws src.items (wipeE e vs) S) fun ys e S => (kdsOf ys).bind fun ps => if kdOne ps then some (.new (.kd (mergeKd [] ps)), e, S) else none
section
variable {X : Cx} {kx vx tg iter : Expr} {ifs : List Expr} {scope : Scope} {own : List (Str × Nat)} {pos : Pos} {mi : M Src} {t : Tgt} {mc : M Bool} {mk mv : M R}
end
/-! ### in, not in -/
def gInK (neg : Bool) (rx ry : R) : M R := fun e S => match rx with
  | .d y => (match look ry e S with
    | some (.kd kvs) => (rk y).bind fun k => if sameT kvs y then some (.d (.bl ((valKd kvs k).isSome != neg)), e, S) else none
    | _ => none)
  | _ => none
section
variable {X : Cx}
end
end G

set_option Elab.async false
set_option linter.all false
set_option maxRecDepth 1000000
set_option maxHeartbeats 2000000
/-! GHW: a law's row, the world told; the calculus of dicts keyed by rows. -/
namespace G
open PySem PySem.Spec PyProof.Rows L2
theorem walk_G3 {l : PySem.W.OpenLaw} {n k : Nat} {q : Program} {loose : List Str} {XP : (Str → Option Value) → Heap → Prop} {YP : World → Heap → Prop} {d : DefRec} {K : Params → PySem.W.Frag} {x : Str}
    (hn : l.most = some n) (hn2 : n ≤ sizeLine) (hdf : d.params.defaults = []) (hr : Room k callerA) (hY : ∀ (w : World) (h : Heap), YP w h → (K w.params).In h)
    (F : ∀ (w : World) (mg : Str → Option Value) (fa : Addr) (h : Heap), (K w.params).In h → h.Ns mainGlobals mg → mg d.name = some (.ref fa) →
      ∃ (i : Wld) (f : Fn) (fd : FuncData), (∀ (s : Shared) (u : Value), BindsTo s fd ⟨[u], []⟩ [(x, u)]) ∧ (∀ base : Heap, (K w.params).In base → base.Ns mainGlobals mg → FnG l.prog w (K w.params) mg base k fa fd [x] (spG (K w.params) 1 f)) ∧
        ∀ ns : List Int, ns.length ≤ n → (∀ z ∈ ns, Builtin.Int.intBits z ≤ 1048576) → ∃ S', f [.d (.lst (ns.map D.int))] [] = some (.d (.bl true), S')) :
    PySem.W.WalkO q loose XP YP l.row.toRowW d [] (fun f vs => PySem.call f vs) :=
  Att.attach_callB hn hdf fun w s₀ s₁ mg mb fa o pm cd doc a vs ns G Y ho hd hcd hmg hobj hints hlen hbits hg =>
    let ⟨i, _, fd, hb, hF, hf⟩ := F w mg fa _ (hY w _ Y) G.T.g hmg
    law_callG (hY w _ Y) G.T.g G.T.b G.T.builtins G.T.nolimit hg hobj hints (Nat.le_trans hlen hn2) hr hF hb fun H hO hS => let ⟨_, h⟩ := hf ns hlen hbits; spG_law hO hS h
end G

set_option Elab.async false
set_option linter.all false
set_option maxRecDepth 1000000
set_option maxHeartbeats 4000000
/-! GHV: the calculus of dicts keyed by rows. -/
namespace G
variable [Wld]
open PySem PySem.Spec PyProof.Rows L2
section
variable {e : En} {S : Sto} {Q : R → En → Sto → Prop}
end
/-! ### rows as keys -/
mutual
theorem nk_inj : ∀ (d d' : D) (k : NestedKey), nk d = some k → nk d' = some k → d = d'
  | .non, d', k, h, h' => by
    cases h
    cases d' with
    | non => rfl
    | tup ds => obtain ⟨ps, _, e⟩ := Option.map_eq_some_iff.mp (show (nks ds).map NestedKey.tup = some _ from h'); cases e
    | _ => cases h'
  | .int i, d', k, h, h' => by
    cases h
    cases d' with
    | int j => cases h'; rfl
    | tup ds => obtain ⟨ps, _, e⟩ := Option.map_eq_some_iff.mp (show (nks ds).map NestedKey.tup = some _ from h'); cases e
    | _ => cases h'
  | .str x, d', k, h, h' => by
    cases h
    cases d' with
    | str j => cases h'; rfl
    | tup ds => obtain ⟨ps, _, e⟩ := Option.map_eq_some_iff.mp (show (nks ds).map NestedKey.tup = some _ from h'); cases e
    | _ => cases h'
  | .tup ds, d', k, h, h' => by
    obtain ⟨ps, e1, e2⟩ := Option.map_eq_some_iff.mp (show (nks ds).map NestedKey.tup = some _ from h)
    subst e2
    cases d' with
    | tup ds' =>
      obtain ⟨qs, e3, e4⟩ := Option.map_eq_some_iff.mp (show (nks ds').map NestedKey.tup = some _ from h')
      cases e4
      rw [nks_inj ds ds' _ e1 e3]
    | _ => cases h'
  | .bl _, _, _, h, _ => by cases h
  | .lst _, _, _, h, _ => by cases h
  | .dic _ _, _, _, h, _ => by cases h
  | .ref _, _, _, h, _ => by cases h
  | .fn _, _, _, h, _ => by cases h
theorem nks_inj : ∀ (ds ds' : List D) (ks : List NestedKey), nks ds = some ks → nks ds' = some ks → ds = ds'
  | [], ds', _, h, h' => by
    cases h
    cases ds' with
    | nil => rfl
    | cons a l => obtain ⟨p, ps, _, _, e⟩ := nks_cons h'; cases e
  | d :: ds, ds', _, h, h' => by
    obtain ⟨p, ps, h1, h2, rfl⟩ := nks_cons h
    cases ds' with
    | nil => cases h'
    | cons a l =>
      obtain ⟨q, qs, h3, h4, e⟩ := nks_cons h'
      cases e
      rw [nk_inj d a _ h1 h3, nks_inj ds l _ h2 h4]
end
theorem find_any {α : Type} (p : α → Bool) : ∀ l : List α, (l.find? p).isSome = l.any p
  | [] => rfl
  | a :: l => by
    rw [List.find?_cons, List.any_cons]
    cases p a with
    | true => rfl
    | false => simpa using find_any p l
def hasKd (kvs : List (D × D)) (k : NestedKey) : Bool := kvs.any fun q => decide (nk q.1 = some k)
theorem valKd_isSome (kvs : List (D × D)) (k : NestedKey) : (valKd kvs k).isSome = hasKd kvs k := by
  unfold valKd hasKd
  rw [Option.isSome_map, find_any]
theorem hasKd_put {kvs : List (D × D)} {kd d : D} {k k' : NestedKey} (hk : nk kd = some k) : hasKd (putKd kvs kd k d) k' = (hasKd kvs k' || decide (k = k')) := by
  unfold putKd
  rw [valKd_isSome]
  have em : hasKd (kvs.map (setKd k d)) k' = hasKd kvs k' := by
    unfold hasKd
    rw [List.any_map]
    refine congrArg (fun f => List.any kvs f) ?_
    funext q
    show decide (nk (setKd k d q).1 = some k') = _
    unfold setKd
    split <;> rfl
  split
  · rename_i h
    rw [em]
    by_cases e : k = k'
    · subst e; rw [h]; rfl
    · simp [e]
  · unfold hasKd
    rw [List.any_append]
    simp [hk]
theorem hasKd_merge {k' : NestedKey} : ∀ (ps : List Tr) (kvs : List (D × D)), (∀ p ∈ ps, nk p.1 = some p.2.1) → hasKd (mergeKd kvs ps) k' = (hasKd kvs k' || ps.any fun p => decide (p.2.1 = k'))
  | [], kvs, _ => by simp [mergeKd]
  | p :: ps, kvs, h => by
    have e : mergeKd kvs (p :: ps) = mergeKd (putKd kvs p.1 p.2.1 p.2.2) ps := rfl
    rw [e, hasKd_merge ps _ fun q hq => h q (List.mem_cons_of_mem p hq), hasKd_put (h p (by simp)), List.any_cons, Bool.or_assoc]
theorem kdsOf_nk : ∀ {ds : List D} {ps : List Tr}, kdsOf ds = some ps → ∀ p ∈ ps, rk p.1 = some p.2.1
  | [], _, h, p, hp => by cases h; cases hp
  | d :: ds, _, h, p, hp => by
    obtain ⟨kd, vd, k, cs, rfl, hk, e1, rfl⟩ := kdsOf_cons h
    rcases List.mem_cons.mp hp with rfl | hp
    · exact hk
    · exact kdsOf_nk e1 p hp
/-- {x: v for x in ds} holds just these -/
theorem kdsOf_map (f : D → D) : ∀ {ds : List D}, (∀ d ∈ ds, ∃ k, rk d = some k) → ∃ ps, kdsOf (ds.map fun d => .tup [d, f d]) = some ps ∧ ps.map (·.1) = ds
  | [], _ => ⟨[], rfl, rfl⟩
  | d :: ds, h => by
    obtain ⟨ps, h1, h2⟩ := kdsOf_map f (ds := ds) fun x hx => h x (by simp [hx])
    obtain ⟨k, hk⟩ := h d (by simp)
    exact ⟨(d, k, f d) :: ps, kdsOf_mk hk h1, by rw [List.map_cons, h2]⟩
end G

set_option Elab.async false
set_option linter.all false
set_option maxRecDepth 1000000
set_option maxHeartbeats 4000000
/-! GXA: exceptions of an own class with one field: made, raised. -/
namespace G
variable [Wld]
open PySem PySem.Spec PyProof.Rows L2
section
variable {X : Cx} {x : Str} {VC : Addr} {e : Expr} {es : List Expr} {ta : TA} {p1 p2 pos : Pos}
end
end G

set_option Elab.async false
set_option linter.all false
set_option maxRecDepth 1000000
set_option maxHeartbeats 4000000
/-! GXB: statements that may raise an exception of the class at C, told by its one field f. -/
namespace G
variable [Wld]
open PySem PySem.Spec PyProof.Rows L2
abbrev Fx := Fl ⊕ D
def EndX (K : PySem.W.Frag) (C : Addr) (f : Str) (W : WX) (D : Ends) (H : Hp) (ι : List Addr) (σ : SV) (e e' : En) (S' : Sto) : Fx → Prop
  | .inl .nx => ∀ σ' H' ι', Rel K H' ι' σ' e' S' → Post H ι σ e H' ι' σ' e' → D.nx σ' H'
  | .inl .bk => ∀ σ' H' ι', Rel K H' ι' σ' e' S' → Post H ι σ e H' ι' σ' e' → D.bk σ' H'
  | .inl .ct => ∀ σ' H' ι', Rel K H' ι' σ' e' S' → Post H ι σ e H' ι' σ' e' → D.ct σ' H'
  | .inl (.rt r) => ∀ v σ' H' ι', Rel K H' ι' σ' e' S' → Post H ι σ e H' ι' σ' e' → RRr K H ι σ e H' ι' v r → D.rt v H'
  | .inr x => ∀ σ' H' ι' dd fs v, Rel K H' ι' σ' e' S' → Post H ι σ e H' ι' σ' e' → H' dd = some (.xd fs) → fs.lookup f = some v → RD K H' ι' v x → W (.ref C) (some dd) σ' H'
def tGX (K : PySem.W.Frag) (C : Addr) (f : Str) (W : WX) (m : M Fx) : TS := fun D σ H => ∃ ι e S fl e' S', Rel K H ι σ e S ∧ m e S = some (fl, e', S') ∧ EndX K C f W D H ι σ e e' S' fl
abbrev GXS (X : Cx) (C : Addr) (f : Str) (W : WX) (st : Stmt) (m : M Fx) : Prop := PS X st (tGX X.K C f W m)
abbrev GXs (X : Cx) (C : Addr) (f : Str) (W : WX) (st : List Stmt) (m : M Fx) : Prop := PSs X st (tGX X.K C f W m)
def xLift (m : M Fl) : M Fx := bnd m fun fl => pur (.inl fl)
def xSeq (a b : M Fx) : M Fx := bnd a fun fl => match fl with
  | .inl .nx => b
  | z => pur z
def xIf (mt : M Bool) (a b : M Fx) : M Fx := bnd mt fun x => if x = true then a else b
def xRaise (m : M R) : M Fx := bnd m fun r => match r with
  | .d x => pur (.inr x)
  | _ => stk
section
variable {X : Cx} {C : Addr} {f : Str} {W : WX} {st : Stmt} {rest : List Stmt} {a b : M Fx} {mt : M Bool} {pos : Pos}
/-! ### for -/
noncomputable def xforL (t : Tgt) (body : M Fx) (ws : List (R × List D)) : List D → M Fx
  | [] => fun e S => if wat ws e S then some (.inl .nx, e, S) else none
  | d :: ds => fun e S => if wat ws e S then (match t d e with
    | some e1 => match body e1 S with
      | some (.inl .nx, e2, S2) => xforL t body ws ds e2 S2
      | some (.inl .ct, e2, S2) => xforL t body ws ds e2 S2
      | some (.inl .bk, e2, S2) => some (.inl .nx, e2, S2)
      | some (.inl (.rt r), e2, S2) => some (.inl (.rt r), e2, S2)
      | some (.inr x, e2, S2) => some (.inr x, e2, S2)
      | none => none
    | none => none) else none
noncomputable def xFor (t : Tgt) (mi : M Src) (body : M Fx) : M Fx := bnd mi fun src => if (src.ws.all fun p => isRef p.1) then xforL t body src.ws src.items else stk
/-! ### raise -/
/-- what C's own __init__ does: its one field is set -/
def spInit (C : Addr) (f : Str) : Sp := fun vs H Q _ => ∃ a v, vs = [.ref a, v] ∧ H a = some (exo a C none) ∧ ∀ dx, H dx = none → dx ≠ a → Q .non (upd (upd H dx (exd dx [(f, v)])) a (exo a C (some dx)))
/-- an exception class of the text with one field -/
structure XCls (P : Program) (w : World) (K : PySem.W.Frag) (mg : Str → Option Value) (base : Heap) (k : Nat) (x : Str) (C : Addr) (f : Str) : Prop where
  T : OexC K C
  mg_ : mg x = some (.ref C)
  ini : ∃ fI fd ps, PySem.W.findIn K (.ref C) "__init__" = some (some (.ref fI)) ∧ PySem.W.typeIn K (.ref fI) = some (.type "function") ∧ FnOk P w K mg base CX0 k fI fd ps (spInit C f) ∧ Binds K fd ps []
end
end G

set_option Elab.async false
set_option linter.all false
set_option maxRecDepth 1000000
set_option maxHeartbeats 4000000
/-! GXC: defs that may raise: their bodies, their calls. -/
namespace G
variable [Wld]
open PySem PySem.Spec PyProof.Rows L2
abbrev FnX := List Sl → Sto → Option ((Rt ⊕ D) × Sto)
def runX (nl : Nat) (body : M Fx) : FnX := fun sls S => match body (sls.map some ++ List.replicate nl none) S with
  | some (.inl (.rt r), _, S') => some (.inl r, S')
  | some (.inl .nx, _, S') => some (.inl (.d .non), S')
  | some (.inr x, _, S') => some (.inr x, S')
  | _ => none
def EndC (K : PySem.W.Frag) (C : Addr) (f : Str) (H : Hp) (ι : List Addr) (S' : Sto) (Q : VK) (E : XK) : Rt ⊕ D → Prop
  | .inl r => ∀ v H' ι', RelS K H' ι' S' → PostC H ι H' ι' → RRt K H H' ι' v r → Q v H'
  | .inr x => ∀ H' ι' dd fs v, RelS K H' ι' S' → PostC H ι H' ι' → H' dd = some (.xd fs) → fs.lookup f = some v → RD K H' ι' v x → E (.ref C) (some dd) H'
def spX (K : PySem.W.Frag) (n : Nat) (C : Addr) (f : Str) (m : FnX) : Sp := fun vs H Q E => vs.length = n ∧ ∃ ι sls S r S', RelS K H ι S ∧ RSls K H ι vs sls ∧ m sls S = some (r, S') ∧ EndC K C f H ι S' Q E r
/-- FnOk, where no guard stands; what it lets out is told -/
structure FnXG (P : Program) (w : World) (K : PySem.W.Frag) (mg : Str → Option Value) (base : Heap) (k : Nat) (f : Addr) (fd : FuncData) (ps : List Str) (sp : Sp) : Prop where
  len : ∀ vs H Q E, sp vs H Q E → vs.length = ps.length
  run : ∀ (A : Around) (outer : List PySem.Env) (s : Shared) (H : Hp) (args : Args) (us : List Value) (vs : List V) (Q : VK) (E : XK), Room k A → A.guards = some [] → Env0 P w K mg base A outer s H →
    BindsTo s fd args (ps.zip us) → Vals vs us → sp vs H Q E → codeAny (model P w) A (.call (.ref f) args) (CR (L2.CX P w) outer P w H s Q E) s
section
variable {P : Program} {w : World} {K : PySem.W.Frag} {mg : Str → Option Value} {base : Heap}
theorem FnXG.of {x qual : Str} {st : Stmt} {f : Addr} {fd : FuncData} {N ps : List Str} {k : Nat} {sp : Sp} (F : Fun K x qual st f fd) (S : FnScope N ps (defScope st)) (len : ∀ vs H Q E, sp vs H Q E → vs.length = ps.length)
    (body : ∀ (cdv : Value) (A : Around) (outer : List PySem.Env) (s : Shared) (H : Hp) (vs : List V) (Q : VK) (E : XK), Room k (A.deeper (envOfC qual (defScope st) s.heap.objs.size f cdv)) → (A.deeper (envOfC qual (defScope st) s.heap.objs.size f cdv)).guards = some [] → sp vs H Q E →
      ∃ t, PSs (cxOf (L2.CX P w) P w K mg base N qual (defScope st) f cdv A outer s H E) (defBody st) t ∧ t { nx := fun _ H' => Q .non H', rt := Q } (start N vs) H) :
    FnXG P w K mg base (k + 1) f fd ps sp := by
  obtain ⟨oc, od, kV, doc, pm, an, cdv, ct, osl, rfl, lk, hcd⟩ := F.ex
  refine ⟨len, fun A outer s H args us vs Q E hr hg e0 hb r hsp => ?_⟩
  have hl := len _ _ _ _ hsp
  have hK : K.In s.heap := e0.mod.kin.keeps fun b o z => (e0.bs b o z).1
  have hlim : s.heap.NoLimit := e0.mod.nolimit.keeps fun b o z => (e0.bs b o z).1
  refine codeAny_call_function hr.depth (hK _ _ lk) rfl S.co S.gen rfl (PySem.W.codeRec_of hK hcd) (hb _ _ _ _ ?_)
  refine wpAny_newFunctionEnv_cells S.kind (fun p hp => ?_) fun env he s1 x => ?_
  · rcases S.par p.1 (List.of_mem_zip (show (p.1, p.2) ∈ ps.zip us from hp)).1 with z | z
    · exact .inl z
    · exact .inr ⟨z, PySem.W.cellsFrom_some _ _ _ (.inl z)⟩
  subst he
  refine ⟨hlim.keeps x.toInCall.keep, codeAny_func ?_⟩
  obtain ⟨t, ht, hq⟩ := body cdv A outer s H vs Q E (hr.deeper _) (deeper_guards hg) hsp
  have I := inv_start (CX := L2.CX P w) (E := E) S hr.hd e0 hl r x
  refine wpAny_mono (ht.run [] s1 (start N vs) H _ I hq) (fun fl s' hs => ?_) fun _ _ z => z
  match fl, hs with
  | .ret u, ⟨v, σ', H', J, rv, z⟩ => exact ⟨v, H', J.os, J.bare, J.base, J.hok, rv, z⟩
  | .next, ⟨σ', H', J, z⟩ => exact ⟨.non, H', J.os, J.bare, J.base, J.hok, rfl, z⟩
  | .brk, ⟨σ', H', J, z⟩ => exact z.elim
  | .cont, ⟨σ', H', J, z⟩ => exact z.elim
theorem fnx_ok {x qual : Str} {st : Stmt} {fa C : Addr} {f : Str} {fd : FuncData} {N ps : List Str} {k : Nat} {body : M Fx} (F : Fun K x qual st fa fd) (Sc : FnScope N ps (defScope st))
    (h : ∀ (cdv : Value) (A : Around) (outer : List PySem.Env) (s : Shared) (H : Hp) (vs : List V) (Q : VK) (E : XK), Room k (A.deeper (envOfC qual (defScope st) s.heap.objs.size fa cdv)) → (A.deeper (envOfC qual (defScope st) s.heap.objs.size fa cdv)).guards = some [] →
      GXs (cxOf (L2.CX P w) P w K mg base N qual (defScope st) fa cdv A outer s H E) C f (fun cls d _ H => E cls d H) (defBody st) body) :
    FnXG P w K mg base (k + 1) fa fd ps (spX K ps.length C f (runX (N.length - ps.length) body)) := by
  refine FnXG.of F Sc (fun vs H Q E q => q.1) fun cdv A outer s H vs Q E hr hgd q => ?_
  refine ⟨_, h cdv A outer s H vs Q E hr hgd, ?_⟩
  obtain ⟨hl, ι, sls, S, r, S', R, hs, hm, q⟩ := q
  have hl2 := hs.length
  unfold runX at hm
  rw [show ps.length = sls.length by omega] at hm
  have R0 := R.start (N := N) hs
  have fin : ∀ {σ' : SV} {e' : En} {H' : Hp} {ι' : List Addr} {S' : Sto}, Rel K H' ι' σ' e' S' → Post H ι (L2.start N vs) (sls.map some ++ List.replicate (N.length - sls.length) none) H' ι' σ' e' → RelS K H' ι' S' ∧ PostC H ι H' ι' := fun R' P' =>
    ⟨R'.s, P'.pre, P'.stay, P'.dom, fun a o h1 h2 => let ⟨q1, q2, _⟩ := P'.keep a o h1 h2 (no_own hs a); ⟨q1, q2⟩⟩
  split at hm
  · rename_i r0 e' S1 hb
    cases hm
    refine ⟨ι, _, S, _, e', _, R0, hb, fun v σ' H' ι' R' P' r' => ?_⟩
    obtain ⟨Rs, Pc⟩ := fin R' P'
    refine q v H' ι' Rs Pc ?_
    cases r0 with
    | d x => exact r'
    | new o =>
      obtain ⟨a, rfl, ro, n, nk⟩ := r'
      refine ⟨a, rfl, ro, n, ?_⟩
      cases hq : H a with
      | none => rfl
      | some u =>
        refine (nk u hq (fun hm => ?_) (no_own hs a)).elim
        obtain ⟨l, e⟩ := P'.pre
        exact n (e ▸ List.mem_append_left _ hm)
  · rename_i e' S1 hb
    cases hm
    refine ⟨ι, _, S, _, e', _, R0, hb, fun σ' H' ι' R' P' => ?_⟩
    obtain ⟨Rs, Pc⟩ := fin R' P'
    exact q .non H' ι' Rs Pc .non
  · rename_i x0 e' S1 hb
    cases hm
    refine ⟨ι, _, S, _, e', _, R0, hb, fun σ' H' ι' dd fs v R' P' h1 h2 h3 => ?_⟩
    obtain ⟨Rs, Pc⟩ := fin R' P'
    exact q H' ι' dd fs v Rs Pc h1 h2 h3
  · cases hm
end
section
variable {X : Cx} {k : Nat} {fa C : Addr} {fd : FuncData} {ps : List Str} {sp : Sp} {W : WX}
/-- a def of the text that may raise, and what it computes -/
structure GFX (P : Program) (w : World) (K : PySem.W.Frag) (mg : Str → Option Value) (base : Heap) (k : Nat) (x : Str) (n : Nat) (C : Addr) (f : Str) (m : FnX) : Prop where
  ex : ∃ fa fd ps, FnXG P w K mg base k fa fd ps (spX K n C f m) ∧ mg x = some (.ref fa) ∧ PySem.W.keepIn K (.ref fa) = true ∧ Binds K fd ps []
/-- y = x(..), which may raise -/
def xSetC (i n : Nat) (xf : FnX) (ms : M (List R)) : M Fx := bnd ms fun rs => if rs.length = n then (fun e S => match toArgs rs e with
  | some sls => (match xf sls S with
    | some (.inl r, S') => (setS i r.r e S').map fun z => (.inl z.1, z.2)
    | some (.inr x, S') => some (.inr x, e, S')
    | none => none)
  | none => none) else stk
end
end G

set_option Elab.async false
set_option linter.all false
set_option maxRecDepth 1000000
set_option maxHeartbeats 4000000
/-! GXD: try .. except .. as e: the suite's reading; isinstance of what was caught. -/
namespace G
variable [Wld]
open PySem PySem.Spec PyProof.Rows L2
section
variable {K : PySem.W.Frag} {H : Hp} {ι : List Addr} {σ : SV} {e : En} {S : Sto}
end
def EndG (K : PySem.W.Frag) (D : Ends) (H : Hp) (ι : List Addr) (σ : SV) (e e' : En) (S' : Sto) : Fl → Prop
  | .nx => ∀ σ' H' ι', Rel K H' ι' σ' e' S' → Post H ι σ e H' ι' σ' e' → D.nx σ' H'
  | .bk => ∀ σ' H' ι', Rel K H' ι' σ' e' S' → Post H ι σ e H' ι' σ' e' → D.bk σ' H'
  | .ct => ∀ σ' H' ι', Rel K H' ι' σ' e' S' → Post H ι σ e H' ι' σ' e' → D.ct σ' H'
  | .rt r => ∀ v σ' H' ι', Rel K H' ι' σ' e' S' → Post H ι σ e H' ι' σ' e' → RRr K H ι σ e H' ι' v r → D.rt v H'
/-- the suite's reading: slot i holds the exception, of which the field f tells x -/
def tSui (K : PySem.W.Frag) (f : Str) (i : Nat) (a dd : Addr) (h : D → M Fl) : TS := fun D σ H => ∃ ι e S x fl e' S' fs v, Rel K H ι σ e S ∧ σ[i]? = some (some (.ref a)) ∧ (∀ s, e[i]? ≠ some (some s)) ∧ H a = none ∧ H dd = some (.xd fs) ∧ fs.lookup f = some v ∧ RD K H ι v x ∧
  h x e S = some (fl, e', S') ∧ EndG K D H ι σ e e' S' fl
def mTry (i : Nat) (mb : M Fx) (h : D → M Fl) : M Fl := bnd mb fun fx => match fx with
  | .inl fl => pur fl
  | .inr x => fun e S => if i < e.length then (match h x (e.set i none) S with
    | some (.nx, e', S') => some (.nx, e'.set i none, S')
    | some (.bk, e', S') => some (.bk, e'.set i none, S')
    | some (.ct, e', S') => some (.ct, e'.set i none, S')
    | some (.rt r, e', S') => some (.rt r, e', S')
    | none => none) else none
section
variable {X : Cx} {C : Addr} {f vx n : Str} {c : Value} {i : Nat} {body suite : List Stmt} {b₀ : Stmt} {np pos pos' : Pos} {mb : M Fx} {h : D → M Fl}
/-! ### isinstance of what was caught -/
def rIsX (K : PySem.W.Frag) (C a dd : Addr) : List V → Hp → VK → Prop := fun xs H Q => (∃ fs, H dd = some (.xd fs)) ∧
  ((∃ c cv b, xs = [.ref a, c] ∧ ClsV c cv ∧ PySem.W.kitOne K (.ref C) cv = some b ∧ Q (.bl b) H) ∨ ∃ tp cs us b, xs = [.ref a, .ref tp] ∧ H tp = some (.tup cs) ∧ Paired ClsV cs us ∧ PySem.W.kitAny K (.ref C) us = some b ∧ Q (.bl b) H)
end
end G

set_option Elab.async false
set_option linter.all false
set_option maxRecDepth 1000000
set_option maxHeartbeats 4000000
/-! GXE: defs that may raise, by their text; the facts of an exception class. -/
namespace G
variable [Wld]
open PySem PySem.Spec PyProof.Rows L2
section
variable {P : Program} {w : World} {K : PySem.W.Frag} {mg : Str → Option Value} {base : Heap}
theorem FnXG.mono {j k : Nat} {f : Addr} {fd : FuncData} {ps : List Str} {sp : Sp} (F : FnXG P w K mg base j f fd ps sp) (h : j ≤ k) : FnXG P w K mg base k f fd ps sp :=
  ⟨F.len, fun A outer s H args us vs Q E hr => F.run A outer s H args us vs Q E (hr.mono h)⟩
theorem GFX.mono {j k n : Nat} {x f : Str} {C : Addr} {m : FnX} (F : GFX P w K mg base j x n C f m) (h : j ≤ k) : GFX P w K mg base k x n C f m := by
  obtain ⟨fa, fd, ps, a, b⟩ := F.ex
  exact ⟨fa, fd, ps, a.mono h, b⟩
theorem GFX.bodyOf {x qual f : Str} {st : Stmt} {N ps : List Str} {k : Nat} {C : Addr} {body : M Fx} (D : DF K mg x qual st ps) (Sc : FnScope N ps (defScope st))
    (h : ∀ (fa : Addr) (cdv : Value) (A : Around) (outer : List PySem.Env) (s : Shared) (H : Hp) (vs : List V) (Q : VK) (E : XK), Room k (A.deeper (envOfC qual (defScope st) s.heap.objs.size fa cdv)) → (A.deeper (envOfC qual (defScope st) s.heap.objs.size fa cdv)).guards = some [] →
      GXs (cxOf (L2.CX P w) P w K mg base N qual (defScope st) fa cdv A outer s H E) C f (fun cls d _ H => E cls d H) (defBody st) body) :
    GFX P w K mg base (k + 1) x ps.length C f (runX (N.length - ps.length) body) := by
  obtain ⟨fa, fd, F, hm, hb⟩ := D.ex
  exact ⟨fa, fd, ps, fnx_ok F Sc (h fa), hm, F.kp, hb⟩
/-- what a class body's def is -/
def clsS : Stmt → Nat → Stmt
  | .ClassDef _ _ _ body _ _ _ _ _ _ _, j => body.getD j (.Pass ⟨0, 0, 0, 0⟩)
  | s, _ => s
/-- the suite of a def's first try -/
def trySuite : List Stmt → List Stmt
  | .Try _ [.ExceptHandler _ _ b _] _ _ _ :: _ => b
  | _ :: l => trySuite l
  | [] => []
/-- what is wanted of the base class whose __init__ is called -/
structure VCls (K : PySem.W.Frag) (VC : Addr) : Prop where
  rd : PySem.W.readsIn K VC (.type "type") = true
  ga : PySem.W.specialIn K (.ref VC) "__getattribute__" = some (some (.builtin "type.__getattribute__"))
  vV : PySem.W.findCls K (.ref VC) (.type "type") "__init__" = some (.val (.builtin "ValueError.__init__"))
/-- where an exception class's __init__ lies -/
structure InitAt (K : PySem.W.Frag) (C : Addr) (qual : Str) (st : Stmt) : Prop where
  ex : ∃ fI oc od kV doc pm an cdv ct osl, PySem.W.findIn K (.ref C) "__init__" = some (some (.ref fI)) ∧ PySem.W.typeIn K (.ref fI) = some (.type "function") ∧ K.lookup fI = some ⟨oc, od, .func (PySem.W.fnOf "__init__" qual (defArgs st) (defBody st) (defScope st) .none kV doc pm an cdv ct), osl⟩ ∧ PySem.W.codeIn K cdv qual = true
end
end G

set_option Elab.async false
set_option linter.all false
set_option maxRecDepth 1000000
set_option maxHeartbeats 4000000
/-! GXF: {"k": e}. -/
namespace G
variable [Wld]
open PySem PySem.Spec PyProof.Rows L2
def mD1 (k : Str) (m : M R) : M R := bnd m fun r => match r with
  | .d x => pur (.new (.dct [(.inr k, x)]))
  | _ => stk
section
variable {X : Cx} {pos : Pos}
theorem ge_d1 {k : Str} {ex : Expr} {m : M R} {j p1} (h : GE X ex m) : GE X (.Dict [some (.Constant (.str k) j p1)] [ex] pos) (mD1 k m) :=
  PE.imp (pe_disp (pps_cons pe_str h pps_nil) rfl rfl (List.cons_ne_nil _ _) (by simp)) fun σ H Q q => by
    obtain ⟨ι, e, S, r, e', S', R, hm, q⟩ := q
    obtain ⟨r1, e1, S1, h1, hm⟩ := bnd_eq hm
    cases r1 with
    | d x =>
      cases hm
      intro p hp
      obtain ⟨R2, P2, n1, n2⟩ := R.new (u := .dK []) hp
      refine ⟨ι, e, S, _, _, _, R2, h1, fun v H3 ι3 R3 P3 r3 _ => ?_⟩
      obtain ⟨k1, k2, k3, k4⟩ := P3.keep p _ upd_same n1 fun z => n2 (.of z)
      refine ⟨k1, [(.inr k, v)], rfl, by simp, ?_⟩
      show Q (.ref p) (upd H3 p (.dK [(.inr k, v)]))
      have st : Stay H3 (upd H3 p (.dK [(.inr k, v)])) := Stay.mut k1 (fun _ z => nomatch z) fun _ _ z => nomatch z
      refine q _ _ ι3 (R3.other st k2 (k4 n2)) ((P2.trans P3).fresh hp st) ⟨p, rfl, ⟨_, upd_same, .cons ⟨rfl, RD.mono st ⟨[], by simp⟩ _ _ r3⟩ .nil⟩, k2, k4 n2⟩ ⟨p, rfl, hp⟩
    | _ => cases hm
end
end G

set_option Elab.async false
set_option linter.all false
set_option maxRecDepth 1000000
set_option maxHeartbeats 4000000
/-! GXG: tuple * int, also by 0 and by 1. -/
namespace G
open PySem PySem.Spec PyProof.Rows L2
variable [Wld]
def gMulT (rx ry : R) : M R := match rx, ry with
  | .d (.tup ds), .d (.int k) => if 0 ≤ k ∧ k ≤ 1000 ∧ ds.length ≤ 1000 ∧ ds ≠ [] then pur (.d (.tup (List.replicate k.toNat ds).flatten)) else stk
  | _, _ => stk
theorem RDs.reps {K : PySem.W.Frag} {H : Hp} {ι : List Addr} {xs : List V} {ds : List D} (h : RDs K H ι xs ds) : ∀ n : Nat, RDs K H ι (List.replicate n xs).flatten (List.replicate n ds).flatten
  | 0 => .nil
  | n + 1 => by
    rw [List.replicate_succ, List.flatten_cons, List.replicate_succ, List.flatten_cons]
    exact h.append (RDs.reps h n)
end G

set_option Elab.async false
set_option linter.all false
set_option maxRecDepth 1000000
set_option maxHeartbeats 4000000
/-! GXH: the calculus of statements that may raise. -/
namespace G
variable [Wld]
open PySem PySem.Spec PyProof.Rows L2
def Xp (f : FnX) (sls : List Sl) (S : Sto) (Q : Rt ⊕ D → Sto → Prop) : Prop := ∃ r S', f sls S = some (r, S') ∧ Q r S'
theorem Xp.mono {f : FnX} {sls : List Sl} {S : Sto} {Q Q' : Rt ⊕ D → Sto → Prop} (h : Xp f sls S Q) (w : ∀ a S, Q a S → Q' a S) : Xp f sls S Q' := let ⟨a, S', h1, h2⟩ := h; ⟨a, S', h1, w _ _ h2⟩
def flX (Q : Rt ⊕ D → Sto → Prop) : Fx → En → Sto → Prop
  | .inl (.rt r), _, S => Q (.inl r) S
  | .inl .nx, _, S => Q (.inl (.d .non)) S
  | .inr x, _, S => Q (.inr x) S
  | _, _, _ => False
section
variable {e : En} {S : Sto} {F : Fx → En → Sto → Prop} {a b : M Fx}
def xsQ (b : M Fx) (F : Fx → En → Sto → Prop) : Fx → En → Sto → Prop
  | .inl .nx, e, S => Wp b e S F
  | z, e, S => F z e S
def xrQ (F : Fx → En → Sto → Prop) : R → En → Sto → Prop
  | .d x, e, S => F (.inr x) e S
  | _, _, _ => False
/-! for -/
def lxQ (I : En → Sto → Prop) (F : Fx → En → Sto → Prop) : Fx → En → Sto → Prop
  | .inl .nx, e, S => I e S
  | .inl .ct, e, S => I e S
  | .inl .bk, e, S => F (.inl .nx) e S
  | .inl (.rt r), e, S => F (.inl (.rt r)) e S
  | .inr x, e, S => F (.inr x) e S
/-! calls, try -/
def xcQ (i : Nat) (e : En) (F : Fx → En → Sto → Prop) : Rt ⊕ D → Sto → Prop
  | .inl r, S => Wp (setS i r.r) e S fun fl => F (.inl fl)
  | .inr x, S => F (.inr x) e S
def tyQ (F : Fl → En → Sto → Prop) (i : Nat) : Fl → En → Sto → Prop
  | .rt r, e, S => F (.rt r) e S
  | fl, e, S => F fl (e.set i none) S
end
end G

set_option Elab.async false
set_option linter.all false
set_option maxRecDepth 1000000
set_option maxHeartbeats 4000000
/-! GXI: - of truths. -/
namespace G
variable [Wld]
open PySem PySem.Spec PyProof.Rows L2
def oneI (b : Bool) : Int := if b = true then 1 else 0
def gNegB (rx : R) : M R := match rx with
  | .d (.int i) => pur (.d (.int (-i)))
  | .d (.bl b) => pur (.d (.int (-(oneI b))))
  | _ => stk
/-! {"k": x}; tuple * int -/
theorem wp_mD1 {k : Str} {m : M R} {e : En} {S : Sto} {Q : R → En → Sto → Prop} (h : Wp m e S fun r e1 S1 => ∃ x, r = .d x ∧ Q (.new (.dct [(.inr k, x)])) e1 S1) : Wp (mD1 k m) e S Q := by
  unfold mD1
  rw [wp_bnd]
  refine h.mono ?_
  rintro r e1 S1 ⟨x, rfl, q⟩
  exact wp_pur.mpr q
end G

set_option Elab.async false
set_option linter.all false
set_option maxRecDepth 1000000
set_option maxHeartbeats 4000000
/-! GLA: lambdas: made, and what one promises. -/
namespace G
variable [Wld]
open PySem PySem.Spec PyProof.Rows L2 LamX NdefX
theorem lm_ne {f : Addr} {F : NF} {b : Expr} {u : HO} (h : (∀ p, u ≠ .ext p)) : u ≠ LmO f F b := fun z => h _ z
section
variable {K : PySem.W.Frag} {H H' : Hp} {ι ι' : List Addr} {σ : SV} {e : En} {S : Sto}
theorem lm_ro {f : Addr} {F : NF} {b : Expr} (h : H f = some (LmO f F b)) (o : O) : ¬ RO K H ι f o := fun r => by
  cases o with
  | lst ds => obtain ⟨xs, h1, _⟩ := r; rw [h] at h1; exact absurd (Option.some.inj h1).symm (lm_ne fun _ z => by cases z)
  | dct kvs => obtain ⟨xs, h1, _⟩ := r; rw [h] at h1; exact absurd (Option.some.inj h1).symm (lm_ne fun _ z => by cases z)
  | tab n => obtain ⟨_, ps, h1, _⟩ := r; rw [h] at h1; exact absurd (Option.some.inj h1).symm (lm_ne fun _ z => by cases z)
  | ins c ns ds => obtain ⟨dx, xs, h1, _⟩ := r; rw [h] at h1; exact absurd (Option.some.inj h1).symm (lm_ne fun _ z => by cases z)
  | kx kvs => obtain ⟨o, ws, h1, _⟩ := r; rw [h] at h1; exact absurd (Option.some.inj h1).symm (lm_ne fun _ z => by cases z)
  | kd kvs =>
    obtain ⟨o', es, ep, xs, k⟩ := r
    have z := Option.some.inj (h.symm.trans k.at_)
    unfold LmO at z
    have e1 := congrFun (HO.ext.inj z) { objs := Array.replicate (f + 1) o' }
    have hg := at_rep (a := f) (o := o') (fun q => by rw [k.dt] at q; cases q)
    obtain ⟨od, sl, pm, tv, e2⟩ := e1.mpr hg
    rw [hg] at e2
    have e3 := k.dt
    rw [Option.some.inj e2] at e3
    cases e3
theorem co_ro {c : Addr} {q : Str} (h : H c = some (CodeO c q)) (o : O) : ¬ RO K H ι c o := fun r => by
  cases o with
  | lst ds => obtain ⟨xs, h1, _⟩ := r; rw [h] at h1; exact co_lst (Option.some.inj h1).symm
  | dct kvs => obtain ⟨xs, h1, _⟩ := r; rw [h] at h1; exact co_dK (Option.some.inj h1).symm
  | tab n => obtain ⟨_, ps, h1, _⟩ := r; rw [h] at h1; exact codeO_ne _ (Option.some.inj h1)
  | ins c ns ds => obtain ⟨dx, xs, h1, _⟩ := r; rw [h] at h1; exact co_ins (Option.some.inj h1).symm
  | kx kvs => obtain ⟨o, ws, h1, _⟩ := r; rw [h] at h1; have z := (Option.some.inj h1).symm; unfold CodeO at z; cases z
  | kd kvs =>
    obtain ⟨o', es, ep, xs, k⟩ := r
    have z := Option.some.inj (h.symm.trans k.at_)
    exact (exa_ns (fun vs q => by rw [k.dt] at q; cases q) (fun q => by rw [k.dt] at q; cases q) (fun _ q => by rw [k.dt] at q; cases q) (fun _ q => by rw [k.dt] at q; cases q)).2.2.1 q z.symm
theorem RelS.lm (R : RelS K H ι S) {f : Addr} {F : NF} {b : Expr} (h : H f = some (LmO f F b)) : f ∉ ι := R.notin (lm_ro h)
theorem RelS.co (R : RelS K H ι S) {c : Addr} {q : Str} (h : H c = some (CodeO c q)) : c ∉ ι := R.notin (co_ro h)
theorem upd_two {H : Hp} {a b : Addr} {u w : HO} (h : a ≠ b) : upd (upd H a u) b w = upd (upd H b w) a u := by
  funext x
  by_cases h1 : x = b
  · subst h1; rw [upd_same, upd_ne (Ne.symm h), upd_same]
  · rw [upd_ne h1]
    by_cases h2 : x = a
    · subst h2; rw [upd_same, upd_same]
    · rw [upd_ne h2, upd_ne h2, upd_ne h1]
theorem set_same {S : Sto} {n : Nat} {o : O} (h : S[n]? = some o) : S.set n o = S := by
  apply List.ext_getElem?
  intro i
  by_cases hi : n = i
  · subst hi
    rw [List.getElem?_set_self (List.getElem?_eq_some_iff.mp h).1, h]
  · rw [List.getElem?_set_ne hi]
/-- where a table stands -/
theorem Rel.tab (R : Rel K H ι σ e S) {n : Nat} (h : S[n]? = some (.tab n)) : ι[n]? = some (Wld.tb n) ∧ TabS H (Wld.tb n) (Wld.tq n) := by
  have hl : n < ι.length := by rw [R.ilen]; exact (List.getElem?_eq_some_iff.mp h).1
  have e1 := List.getElem?_eq_getElem hl
  obtain ⟨e2, t⟩ := R.st n _ _ h e1
  rw [e2] at e1 t
  exact ⟨e1, by rw [← e2] at t ⊢; exact t⟩
/-- a table grows by a code object -/
theorem Rel.grow (R : Rel K H ι σ e S) {n : Nat} {c : Addr} {ps more : Array Value} (h : S[n]? = some (.tab n)) (nC : H c = none) (ne : Wld.tb n ≠ c)
    (t : TabS (upd (upd H (Wld.tb n) (.tbl (ps ++ more))) c (CodeO c (Wld.tq n))) (Wld.tb n) (Wld.tq n)) :
    Rel K (upd (upd H (Wld.tb n) (.tbl (ps ++ more))) c (CodeO c (Wld.tq n))) ι σ e S ∧ Post H ι σ e (upd (upd H (Wld.tb n) (.tbl (ps ++ more))) c (CodeO c (Wld.tq n))) ι σ e := by
  rw [upd_two ne] at t ⊢
  obtain ⟨R1, P1, _⟩ := R.new (u := CodeO c (Wld.tq n)) nC
  obtain ⟨hi, _⟩ := R.tab h
  obtain ⟨a, ea, _, go⟩ := R1.write (r := .d (.ref n)) (v := .ref (Wld.tb n)) (.ref hi) h rfl
  cases ea
  obtain ⟨R2, P2⟩ := go (.tbl (ps ++ more)) (.tab n) ⟨rfl, t⟩
  have es : putS (.d (.ref n)) (.tab n) S = S := set_same h
  rw [es] at R2
  exact ⟨R2, P1.trans P2⟩
end
/-- a lambda as a value: n, its maker's table -/
def tLm (X : Cx) (n : Nat) (params : Arguments) (b : Expr) (scope : Scope) : TE := fun σ H Q => ∃ ι e S, Rel X.K H ι σ e S ∧ S[n]? = some (.tab n) ∧
  ∀ f c H1, Rel X.K H1 ι σ e S → Post H ι σ e H1 ι σ e → H f = none → H1 f = some (LmO f (lmF (Wld.tq n) params scope (cloFrom X.env.cells scope.names []) c) b) → H1 c = some (CodeO c (Wld.tq n)) → Q (.ref f) H1
section
variable {X : Cx} {pins : List (Addr × PySem.Obj)} {σ : SV} {H : Hp} {s : Shared}
/-- a lambda's object just made -/
theorem inv_lm {F : NF} {b : Expr} {o : PySem.Obj} {tk : Nat} {pm tv : Value} (I : Inv X pins σ H s) (ho : o = { cls := .type "function", data := .func (PySem.W.kla_fn F.name F.qual F.params b F.scope F.cl pm (.ref F.c) tv) }) :
    Inv X pins σ (upd H s.heap.objs.size (LmO s.heap.objs.size F b)) { s with heap := s.heap.push o, toks := tk } := by
  subst ho
  have at1 := Heap.get?_push_size s.heap (o := ({ cls := .type "function", data := .func (PySem.W.kla_fn F.name F.qual F.params b F.scope F.cl pm (.ref F.c) tv) } : PySem.Obj)) rfl
  refine I.laid (fun _ _ z => Heap.get?_push_of_some _ z) (Nat.le_refl _) ⟨⟨_, _, pm, tv, at1⟩, ⟨_, at1⟩, ?_⟩
  rintro h1 h2 ⟨od, sl, p, t, z⟩ st
  exact ⟨od, sl, p, t, st _ z⟩
theorem pe_lm {n : Nat} {c : Addr} {params : Arguments} {b : Expr} {scope : Scope} {pos : Pos} (TB : TabB X.base X.mg c (Wld.tb n)) (hcode : X.env.code = .ref c) (hq : Wld.tq n = X.env.qual ++ "<lambda>") (hdef : defaultsOf params X.env = ([], []) := by rfl)
    (hfree : ∀ y ∈ scope.names, y.2 = .free → X.env.scope.names.lookup y.1 = some .cell ∨ X.env.scope.names.lookup y.1 = some .free := by decide) : PE X (.Lambda params b scope pos) (tLm X n params b scope) := by
  refine ⟨fun pins s σ H Q I h => ?_⟩
  obtain ⟨ι, e, S, R, hS, fin⟩ := h
  obtain ⟨hi, ps, hP, tok, tall⟩ := R.tab hS
  have fr : ∀ y ∈ scope.names, y.2 = .free → ∃ c, X.env.cells.lookup y.1 = some c := fun y hy z => I.ok.has _ ((hfree y hy z).elim .inl .inr)
  have bP := TB.bm.keeps I.bk
  have gP : s.heap.get? (Wld.tb n) = some { cls := .none, data := .fields ps } := I.hok _ _ hP
  refine PySem.W.kla_eval hdef ?_
  rw [← hq]
  -- what is left, behind the code object
  have last : ∀ {h' : Heap} {tk : Nat} {H1 : Hp} {c' : Addr} {tv : Value}, Inv X pins σ H1 { s with heap := h', toks := tk } → Rel X.K H1 ι σ e S → Post H ι σ e H1 ι σ e → H1 c' = some (CodeO c' (Wld.tq n)) →
      EP X pins σ Q (.ref h'.objs.size) { s with heap := h'.push (PySem.W.kla_obj "<lambda>" (Wld.tq n) params b scope (cloFrom X.env.cells scope.names []) ((X.mg "__name__").getD .none) c' tv), toks := tk } := fun {h' tk H1 c' tv} I1 R1 P1 hc => by
    have n1 : H1 h'.objs.size = none := I1.hok.fresh (Nat.le_refl _)
    have I2 := inv_lm (F := lmF (Wld.tq n) params scope (cloFrom X.env.cells scope.names []) c') (b := b) (pm := (X.mg "__name__").getD .none) (tv := tv) (tk := tk) I1 rfl
    obtain ⟨R2, P2, _⟩ := R1.new (u := LmO h'.objs.size (lmF (Wld.tq n) params scope (cloFrom X.env.cells scope.names []) c') b) n1
    exact ⟨.ref h'.objs.size, _, I2, rfl, fin _ c' _ R2 (P1.trans P2) (P1.back n1) upd_same ((upd_ne (ne_of_none hc n1)).trans hc)⟩
  cases hc : codeAmong pos ps.toList with
  | some cv =>
    obtain ⟨c', rfl, hco⟩ := tall pos cv hc
    refine PySem.W.kla_makeFunctionHit (closure_ok fr) I.ok.glob (I.mod.glob.keeps I.bk) hcode (TB.code.keeps I.bk) gP tok hc bP fun tv h' tk keep _ => ?_
    exact last (I.kept keep) R .refl hco
  | none =>
    refine PySem.W.kla_makeFunction (closure_ok fr) I.ok.glob (I.mod.glob.keeps I.bk) hcode (TB.code.keeps I.bk) gP tok hc TB.gP bP fun c' tv h' tk ext ge lt rec tab => ?_
    obtain ⟨c2, oc, vs, t, z, g1, g2, g3⟩ := rec
    cases z
    have nC : H c' = none := I.hok.fresh ge
    have ne : Wld.tb n ≠ c' := ne_of_none hP nC
    have I1 := inv_table (t' := tk) (h' := h') (q := Wld.tq n) (more := #[rawInt pos.line, rawInt pos.col, .ref c']) I hP (fun a o z y => ext a o z y) tab ge ⟨oc, vs, t, g1, g2, g3⟩
    have T1 : TabS (upd (upd H (Wld.tb n) (.tbl (ps ++ #[rawInt pos.line, rawInt pos.col, .ref c']))) c' (CodeO c' (Wld.tq n))) (Wld.tb n) (Wld.tq n) := by
      have el : (ps ++ #[rawInt pos.line, rawInt pos.col, .ref c']).toList = ps.toList ++ [rawInt pos.line, rawInt pos.col, .ref c'] := by simp
      refine ⟨_, (upd_ne ne).trans upd_same, by rw [el]; exact PySem.TriplesOk_snoc _ _ _ _ tok, fun p cv z => ?_⟩
      rw [el] at z
      rcases among_app _ tok z with z | z
      · obtain ⟨c0, e1, e2⟩ := tall p cv z
        exact ⟨c0, e1, (upd_ne (ne_of_none e2 nC)).trans ((upd_ne fun y => codeO_ne ps (Option.some.inj (e2.symm.trans (by rw [y]; exact hP)))).trans e2)⟩
      · exact ⟨c', z, upd_same⟩
    obtain ⟨R1, P1⟩ := R.grow hS nC ne T1
    exact last I1 R1 P1 upd_same
end
end G

set_option Elab.async false
set_option linter.all false
set_option maxRecDepth 1000000
set_option maxHeartbeats 4000000
/-! GLB: what a lambda promises, by its body. -/
namespace G
variable [Wld]
open PySem PySem.Spec PyProof.Rows L2 LamX NdefX
/-- what captured names hold; none: nothing is known -/
def RWs (K : PySem.W.Frag) (H : Hp) (ι : List Addr) (ws : List (Option V)) (cs : List (Option D)) : Prop := Paired (fun w c => ∀ x, c = some x → ∃ v, w = some v ∧ RD K H ι v x) ws cs
theorem RWs.mono {K : PySem.W.Frag} {H H' : Hp} {ι ι' : List Addr} {ws : List (Option V)} {cs : List (Option D)} (h : RWs K H ι ws cs) (P : PostC H ι H' ι') : RWs K H' ι' ws cs :=
  Paired.mapP h fun w c z x hx => let ⟨v, e, r⟩ := z x hx; ⟨v, e, RD.mono P.stay P.pre _ _ r⟩
theorem paired_len {α β : Type} {R : α → β → Prop} : ∀ {l : List α} {m : List β}, Paired R l m → l.length = m.length
  | _, _, .nil => rfl
  | _, _, .cons _ t => by simp [paired_len t]
theorem paired_get' {α β : Type} {R : α → β → Prop} : ∀ {l : List α} {m : List β} {i : Nat} {b : β}, Paired R l m → m[i]? = some b → ∃ a, l[i]? = some a ∧ R a b
  | _, _, _, _, .nil, h => by simp at h
  | _, _, 0, _, .cons r _, h => by simp at h; subst h; exact ⟨_, rfl, r⟩
  | _, _, i + 1, _, .cons _ t, h => by
    obtain ⟨a, h1, h2⟩ := paired_get' t (by simpa using h)
    exact ⟨a, by simpa using h1, h2⟩
abbrev lamE (sls : List Sl) (cs : List (Option D)) (nl : Nat) : En := sls.map some ++ (cs.map (Option.map Sl.d) ++ List.replicate nl none)
/-- the body of a lambda as what it computes: cs, what it captured -/
def lamF (nl : Nat) (m : M R) (cs : List (Option D)) : Fn := fun sls S => match m (lamE sls cs nl) S with
  | some (.d x, _, S') => some (.d x, S')
  | some (.new o, _, S') => some (.new o, S')
  | _ => none
section
variable {K : PySem.W.Frag} {H : Hp} {ι : List Addr} {vs : List V} {sls : List Sl} {S : Sto} {N : List Str} {ws : List (Option V)} {cs : List (Option D)}
end
/-- the promise of a lambda -/
structure LOk (P : Program) (w : World) (K : PySem.W.Frag) (mg : Str → Option Value) (base : Heap) (k : Nat) (q : Str) (params : Arguments) (b : Expr) (scope : Scope) (np : Nat) (fr : List Str) (m : List (Option D) → Fn) : Prop where
  run : ∀ (A : Around) (outer : List PySem.Env) (s : Shared) (H : Hp) (f c : Addr) (cl : List (Str × Addr)) (us : List Value) (vs : List V) (ws : List (Option V)) (cs : List (Option D)) (ι : List Addr) (sls : List Sl) (S : Sto) (r : Rt) (S' : Sto),
    Room k A → A.guards = some [] → Env0 P w K mg base A outer s H → H f = some (LmO f (lmF q params scope cl c) b) → H c = some (CodeO c q) → CellsAt cl fr ws s.heap H → Vals vs us → vs.length = np →
    RelS K H ι S → RSls K H ι vs sls → RWs K H ι ws cs → m cs sls S = some (r, S') →
    codeAny (model P w) A (.call (.ref f) ⟨us, []⟩) (CR CX0 outer P w H s (fun v H' => ∃ ι', RelS K H' ι' S' ∧ PostC H ι H' ι' ∧ RRt K H H' ι' v r) E0) s
section
variable {P : Program} {w : World} {K : PySem.W.Frag} {mg : Str → Option Value} {base : Heap} {k : Nat} {q : Str} {params : Arguments} {b : Expr} {scope : Scope} {N ps fr : List Str} {m : M R}
theorem LOk.mono {j np : Nat} {m : List (Option D) → Fn} (L : LOk P w K mg base j q params b scope np fr m) (h : j ≤ k) : LOk P w K mg base k q params b scope np fr m :=
  ⟨fun A outer s H f c cl us vs ws cs ι sls S r S' hr => L.run A outer s H f c cl us vs ws cs ι sls S r S' (hr.mono h)⟩
end
end G

set_option Elab.async false
set_option linter.all false
set_option maxRecDepth 1000000
set_option maxHeartbeats 4000000
/-! GLC: sorted(xs, key=lambda .., reverse=..). -/
namespace G
variable [Wld]
open PySem PySem.Spec PyProof.Rows PySem.W L2 LamX NdefX
section
variable {prog : Program} {w : World} {A : Around} {E : Value → Shared → Prop} {s : Shared}
open PySem.Calls in
theorem srt_sortedK {Q : Value → Shared → Prop} {l q : Addr} {rev : Bool} {kw : List (Str × Value)} {xs : List Value} {kz : List PyData} {J : Nat → List Value → Shared → Prop} (hl : s.heap.IsList l xs.toArray)
    (ha1 : argsOk "sorted" ⟨[.ref l], kw⟩) (ha2 : ∀ x, argsOk "list.sort" ⟨[.ref x], kw⟩) (ht : ∀ x, Builtin.«list.sort» ⟨[.ref x], kw⟩ = ksk_tree x (.ref q) rev)
    (L : Leads prog w A.in1.in1 (.ref q) xs kz (s.heap.objs.size + 1) (s.heap.objs.size + 3) J) (h0 : ∀ g tk ea, (∀ b o, s.heap.get? b = some o → g.get? b = some o) → g.get? (s.heap.objs.size + 1) = some (seqObj "list" #[] ea) → g.get? (s.heap.objs.size + 3) = some (seqObj "list" #[] 0) → J 0 [] { s with heap := g, toks := tk })
    (zk : kz.length = xs.length) (zx : xs.length ≤ sizeLine) (al : AllAlike kz) (so : Sortable kz) (room : ∀ d, d ∈ kz → A.units + 2 + d.depth < cLine)
    (fin : ∀ ks t, J xs.length ks t → ∀ g tk n out, But2 (s.heap.objs.size + 1) (s.heap.objs.size + 3) t.heap g → g.get? (s.heap.objs.size + 1) = some (seqObj "list" (List.toArray out) n) → KeyedOut rev kz xs out → Q (.ref (s.heap.objs.size + 1)) { t with heap := g, toks := tk }) :
    wpAny (model prog w) A (call (.builtin "sorted") [.ref l] kw) Q E s := by
  have sz : (copyHeap s.heap xs).objs.size = s.heap.objs.size + 2 := by
    unfold copyHeap
    rw [size_push', Heap.size_update, size_push']
  refine sorted_of_sort hl zx ha1 ha2 fun E' => ?_
  rw [ht]
  refine srt_tree (s := { s with heap := copyHeap s.heap xs }) (copyHeap_at s.heap xs) (J := J) (kz := kz) ?_ ?_ zk zx al so ?_ ?_
  · show Leads prog w A.in1.in1 (.ref q) xs kz (s.heap.objs.size + 1) ((copyHeap s.heap xs).objs.size + 1) J
    rw [sz]; exact L
  · intro g tk ea hg ha hc
    have hc' : g.get? ((copyHeap s.heap xs).objs.size + 1) = some (seqObj "list" #[] 0) := hc
    rw [sz] at hc'
    exact h0 g tk ea (fun b o e => hg b o (Nat.ne_of_lt (Nat.lt_succ_of_lt (Heap.lt_size e))) (copyHeap_old e)) ha hc'
  · intro d hd
    have := room d hd
    simpa using this
  · intro ks t hJ g tk n out b2 got ko
    refine ⟨rfl, fin ks t hJ g tk n out ?_ got ko⟩
    have b2' : But2 (s.heap.objs.size + 1) ((copyHeap s.heap xs).objs.size + 1) t.heap g := b2
    rw [sz] at b2'
    exact b2'
end
section
variable {X : Cx}
/-- what a key's call gives, whoever the key is -/
def KeyCall (X : Cx) (pins : List (Addr × PySem.Obj)) (σ : SV) (H : Hp) (ι : List Addr) (S : Sto) (q : Addr) (f : Fn) : Prop :=
  ∀ (t : Shared) (H' : Hp) (ι' : List Addr) (x : Value) (v : V) (d : D) (r : Rt) (E : Value → Shared → Prop), Inv X pins σ H' t → RelS X.K H' ι' S → PostC H ι H' ι' → RelV v x → RD X.K H' ι' v d → f [.d d] S = some (r, S) →
    wpAny (model X.prog X.w) X.A.in1.in1 (call (.ref q) [x]) (fun u t' => ∃ w H2 ι2, Inv X pins σ H2 t' ∧ RelV w u ∧ RelS X.K H2 ι2 S ∧ PostC H' ι' H2 ι2 ∧ RRt X.K H' H2 ι2 w r) E t
end
/-! ### the mirror, the rule -/
/-- what a captured name holds -/
def capt (e : En) (j : Nat) : Option D := match e[j]? with
  | some (some (.d x)) => some x
  | _ => none
open Classical in
/-- n: the maker's table; js: where the captured names stand; m: the lambda's body -/
noncomputable def gSL (n : Nat) (rev : Bool) (f : List (Option D) → Fn) (js : List Nat) (r : R) : M R := fun e S => (lstOf r e S).bind fun ds => if S[n]? = some (.tab n) ∧ KeysOk (f (js.map (capt e))) S ds then some (.new (.lst (ds.mergeSort (dataLe rev (kyG (f (js.map (capt e))) S)))), e, S) else none
theorem cap_ws {K : PySem.W.Frag} {H : Hp} {ι : List Addr} {σ : SV} {e : En} {S : Sto} (R : Rel K H ι σ e S) : ∀ js : List Nat, RWs K H ι (js.map (slotAt σ)) (js.map (capt e))
  | [] => .nil
  | j :: js => .cons (fun x hx => by
    unfold capt at hx
    split at hx
    · rename_i y he
      cases hx
      obtain ⟨v, hv, r⟩ := R.sl j _ he
      exact ⟨v, slotAt_of hv, r⟩
    · cases hx) (cap_ws R js)
section
variable {X : Cx} {k n : Nat} {q : Str} {params : Arguments} {b : Expr} {scope : Scope} {fr : List Str} {f : List (Option D) → Fn} {js : List Nat}
/-- what the sort asks behind its arguments -/
def tSortL (X : Cx) (n : Nat) (rev : Bool) (params : Arguments) (b : Expr) (scope : Scope) (f : List (Option D) → Fn) (js : List Nat) (z : List V) : SV → List V → List V → Hp → VK → Prop := fun σ xs zs H Q =>
  ∃ fa c ι e S r v ds, zs = .ref fa :: z ∧ xs = [v] ∧ H fa = some (LmO fa (lmF (Wld.tq n) params scope (cloFrom X.env.cells scope.names []) c) b) ∧ H c = some (CodeO c (Wld.tq n)) ∧ Rel X.K H ι σ e S ∧ RR X.K H ι σ e v r ∧ lstOf r e S = some ds ∧ KeysOk (f (js.map (capt e))) S ds ∧
    ∀ v H' ι', Rel X.K H' ι' σ e S → Post H ι σ e H' ι' σ e → RR X.K H' ι' σ e v (.new (.lst (ds.mergeSort (dataLe rev (kyG (f (js.map (capt e))) S))))) → Fresh H v (.new (.lst (ds.mergeSort (dataLe rev (kyG (f (js.map (capt e))) S))))) → Q v H'
variable {ex : Expr} {m' : M (List R)} {p pos lpos kpos kpos2 bpos : Pos} {bj : Nat}
end
end G

set_option Elab.async false
set_option linter.all false
set_option maxRecDepth 1000000
set_option maxHeartbeats 4000000
/-! GLD: defs that make lambdas; a law's row where tables of code objects are tracked. -/
namespace G
variable [Wld]
open PySem PySem.Spec PyProof.Rows L2 LamX
section
variable {P : Program} {w : World} {K : PySem.W.Frag} {mg : Str → Option Value} {base : Heap}
/-- a def of the text whose code object stands at c -/
structure DFC (K : PySem.W.Frag) (mg : Str → Option Value) (x qual : Str) (st : Stmt) (ps : List Str) (c : Addr) : Prop where
  ex : ∃ (f : Addr) (fd : FuncData), Fun K x qual st f fd ∧ mg x = some (.ref f) ∧ Binds K fd ps [] ∧ fd.code = .ref c
theorem DFC.mk' {h : Heap} (X : K.In h) (G : h.Ns mainGlobals mg) {x qual : Str} {st : Stmt} {f c : Addr} {fd : FuncData} {ps : List Str} (F : Fun K x qual st f fd) (a : PySem.W.nsIn K mainGlobals x = some (some (.ref f))) (b : Fun K x qual st f fd → Binds K fd ps []) (hc : fd.code = .ref c) : DFC K mg x qual st ps c :=
  ⟨⟨f, fd, F, PySem.W.mg_of X G a, b F, hc⟩⟩
/-- the makers' code objects and their tables -/
def TBs (base : Heap) (mg : Str → Option Value) (cs ts : List Addr) : Prop := ∀ (i : Nat) (c P : Addr), cs[i]? = some c → ts[i]? = some P → TabB base mg c P
/-- the law's promise, from its mirror, tables at ts -/
theorem spG_lawT {f : Fn} {H : Hp} {a : Addr} {ns : List Int} {ts : List Addr} (hT : ∀ P ∈ ts, H P = some (.tbl #[])) (nd : ts.Nodup) (hw : ∀ (i : Nat) (P : Addr), ts[i]? = some P → P = Wld.tb i) (hl : LF K H a (ns.map V.int)) {S' : Sto}
    (h : f [.d (.lst (ns.map D.int))] ((List.range ts.length).map O.tab) = some (.d (.bl true), S')) : spG K 1 f [.ref a] H (fun v _ => v = .bl true) fun _ _ _ => False := by
  have hr : ∀ (xs : List Int), RDs K H ts (xs.map V.int) (xs.map D.int) := fun xs => by
    induction xs with
    | nil => exact .nil
    | cons x xs ih => exact .cons (.int x) ih
  refine ⟨rfl, ts, _, _, _, _, ⟨by simp, fun n o b h1 h2 => ?_, nd⟩, .cons (s := .d (.lst (ns.map D.int))) (.lst hl (hr ns)) (fun _ _ z => z.elim) (fun z => z) .nil, h, fun v H' ι' R' P' r => ?_⟩
  · rw [List.getElem?_map] at h1
    obtain ⟨m, e1, rfl⟩ := Option.map_eq_some_iff.mp h1
    obtain ⟨e2, e3⟩ := List.getElem?_eq_some_iff.mp e1
    rw [List.getElem_range] at e3
    subst e3
    exact ⟨hw _ _ h2, TabS.nil (hT b (List.mem_of_getElem? h2))⟩
  · cases r
    rfl
end
section
variable {P : Program} {w : World} {K : PySem.W.Frag}
theorem law_coreGT {mg mb : Str → Option Value} {k : Nat} {fa a : Addr} {fd : FuncData} {x : Str} {sp : Sp} {s : Shared} {vs : List Value} {ns : List Int} {H : Hp} {cs ts : List Addr}
    (KX : K.In s.heap) (hns : s.heap.Ns mainGlobals mg) (hb : s.heap.Ns builtinsNs mb) (hbb : ∀ x : Str, x ≠ "__name__" → mb x = bootBuiltins x) (hlim : s.heap.NoLimit) (hgen : s.gens = #[])
    (tt : ∀ P ∈ ts, s.heap.get? P = some { cls := .none, data := .fields #[] }) (tn : ∀ P ∈ ts, K.lookup P = none) (cd : ∀ (i : Nat) (c P : Addr), cs[i]? = some c → ts[i]? = some P → PySem.W.CodeHd s.heap c P) (tc : ∀ P ∈ ts, ∃ c, PySem.W.CodeHd s.heap c P)
    (bm : ∃ (m : Addr) (o : PySem.Obj), mg "__builtins__" = some (.ref m) ∧ m ≠ builtinsNs ∧ s.heap.get? m = some o ∧ o.cls = .type "module" ∧ o.dict = some builtinsNs ∧ o.data = .plain)
    (ha : s.heap.get? a = some { cls := .type "list", data := .seq vs.toArray }) (hr : Room k callerA)
    (F : ∀ base : Heap, K.In base → base.Ns mainGlobals mg → TBs base mg cs ts → FnG P w K mg base k fa fd [x] sp) (hbind : ∀ (s : Shared) (u : Value), BindsTo s fd ⟨[u], []⟩ [(x, u)])
    (hH : ∀ P ∈ ts, H P = some (.tbl #[])) (hO : ∀ b, H b = none ∨ b ∈ ts ∨ ∃ o xs, H b = some (.frz o (.lst xs))) (hsp : sp [.ref a] H (fun v _ => v = .bl true) fun _ _ _ => False) (hok : HOk P w H s.heap) (hA : ∀ b, H b ≠ none → b = a ∨ b ∈ ts) (hK : H a ≠ none → K.lookup a = none) :
    codeAny (model P w) callerA (.call (.ref fa) ⟨[.ref a], []⟩) (fun r s' => r = .ok (.ret (.bool true)) ∧ OldK s.heap s'.heap ∧ s'.os = s.os ∧ AllBare s'.gens) s := by
  have other : ∀ {b : Addr} {o : PySem.Obj}, s.heap.get? b = some o → H b ≠ none → o = { cls := .type "list", data := .seq vs.toArray } ∨ o = { cls := .none, data := .fields #[] } := fun {b o} e z => by
    rcases hA b z with rfl | h
    · rw [ha] at e; exact .inl (Option.some.inj e).symm
    · rw [tt b h] at e; exact .inr (Option.some.inj e).symm
  have un : ∀ {b : Addr} {o : PySem.Obj}, s.heap.get? b = some o → o.data ≠ .seq vs.toArray → o.data ≠ .fields #[] → H b = none := fun {b o} e h1 h2 => Classical.byContradiction fun z => by
    rcases other e z with rfl | rfl
    · exact h1 rfl
    · exact h2 rfl
  have nsK : ∀ {b : Addr} {m : Str → Option Value}, s.heap.Ns b m → (hidT s.heap H).Ns b m := fun {b m} ⟨o, es, ep, e, d, r⟩ => ⟨o, es, ep, hidT_get e (un e (by rw [d]; exact fun z => nomatch z) (by rw [d]; exact fun z => nomatch z)), d, r⟩
  have inK : K.In (hidT s.heap H) := fun b o e => hidT_get (KX b o e) (Classical.byContradiction fun z => by
    rcases hA b z with rfl | h
    · rw [hK z] at e; cases e
    · rw [tn b h] at e; cases e)
  have tb : TBs (hidT s.heap H) mg cs ts := fun i c P h1 h2 => by
    have hP := List.mem_of_getElem? h2
    have gP := tt P hP
    have nG : ∀ b, (∃ (o : PySem.Obj) (es : Array DictEntry) (ep : Nat), s.heap.get? b = some o ∧ o.data = .dict es ep) → b ≠ P := fun b ⟨o, es, ep, e, d⟩ z => by
      rw [z, gP] at e
      cases e
      cases d
    obtain ⟨og, eg, pg, g1, g2, _⟩ := hns
    obtain ⟨m, o, b1, b2, b3, b4, b5, b6⟩ := bm
    obtain ⟨oc, us, file, tf, flags, tg, inF, text, tt', e1, r1, r2, r3, rest⟩ := cd i c P h1 h2
    refine ⟨⟨oc, us, file, tf, flags, tg, inF, text, tt', hidT_get e1 (un e1 (by rw [r2]; exact fun z => nomatch z) (by rw [r2]; intro z; cases z; simp at r3)), r1, r2, r3, rest⟩, ⟨m, o, b1, b2, fun z => ?_, fun z => ?_, hidT_get b3 (un b3 (by rw [b6]; exact fun z => nomatch z) (by rw [b6]; exact fun z => nomatch z)), b4, b5, b6⟩, nG _ ⟨_, _, _, g1, g2⟩⟩
    · rw [z, g1] at b3
      cases b3
      rw [g2] at b6
      cases b6
    · rw [z, gP] at b3
      cases b3
      cases b6
  have e0 : Env0 P w K mg (hidT s.heap H) callerA [] s H :=
    ⟨rfl, ⟨inK, nsK hns, ⟨mb, nsK hb, hbb⟩, let ⟨mc, h1, h2⟩ := hlim; ⟨mc, nsK h1, h2⟩⟩, fun b o e => of_hidT e, Nat.le_of_eq (hidT_size _ _), trivial, fun b hb => (nomatch hb), hok, .of_eq hgen⟩
  refine codeAny_mono ((F _ inK (nsK hns) tb).run callerA [] s H ⟨[.ref a], []⟩ [.ref a] [.ref a] _ _ hr rfl e0 (hbind s (.ref a)) (.cons rfl .nil) hsp) fun r s' h => ?_
  match r, h with
  | .error e, h => exact (show False from h).elim
  | .ok .next, h => exact h.elim
  | .ok .brk, h => exact h.elim
  | .ok .cont, h => exact h.elim
  | .ok (.ret u), ⟨v, H', os, bare, un', hok', r', q⟩ =>
    obtain rfl : v = .bl true := q
    obtain rfl : u = Value.bool true := r'
    have grown : ∀ P ∈ ts, ∃ more : Array Value, s'.heap.get? P = some { cls := .none, data := .fields more } := fun P hP => by
      obtain ⟨more, z⟩ := un'.tbls P #[] (hH P hP)
      exact ⟨_, hok' P _ z⟩
    have old : ∀ b o, b ∉ ts → s.heap.get? b = some o → s'.heap.get? b = some o := fun b o nb e => by
      cases q : H b with
      | none => exact un'.keep b o e q (fun z => nomatch z) (fun z => nomatch z)
      | some u =>
        rcases hO b with z | z | ⟨ob, xs, z⟩
        · rw [q] at z; cases z
        · exact absurd z nb
        · obtain ⟨e1, _⟩ := hok b _ z
          obtain ⟨e2, _⟩ := hok' b _ (un'.frzs b ob _ z)
          rw [e] at e1; cases e1
          exact e2
    refine ⟨rfl, ⟨fun b o e => ?_, fun b o e => ?_⟩, os, bare⟩
    · by_cases hbt : b ∈ ts
      · obtain ⟨more, hm⟩ := grown b hbt
        obtain ⟨c, hc⟩ := tc b hbt
        rw [tt b hbt] at e
        obtain rfl := (Option.some.inj e).symm
        exact .inr (.inl ⟨(hc.tab (tt b hbt)).isCodeTable, rfl, #[], more, rfl, by rw [Array.empty_append]; exact hm⟩)
      · exact .inl (old b o hbt e)
    · by_cases hbt : b ∈ ts
      · obtain ⟨more, hm⟩ := grown b hbt
        exact ⟨_, hm⟩
      · exact ⟨o, old b o hbt e⟩
end
theorem law_callGT {P : Program} {w : World} {K : PySem.W.Frag} {mg mb : Str → Option Value} {k : Nat} {fa a : Addr} {fd : FuncData} {x : Str} {s : Shared} {vs : List Value} {ns : List Int} {cs ts : List Addr} {f : Fn}
    (KX : K.In s.heap) (hns : s.heap.Ns mainGlobals mg) (hb : s.heap.Ns builtinsNs mb) (hbb : ∀ x : Str, x ≠ "__name__" → mb x = bootBuiltins x) (hlim : s.heap.NoLimit) (hgen : s.gens = #[])
    (tt : ∀ P ∈ ts, s.heap.get? P = some { cls := .none, data := .fields #[] }) (tn : ∀ P ∈ ts, K.lookup P = none) (hl' : cs.length = ts.length) (nd : ts.Nodup) (cd : ∀ (i : Nat) (c P : Addr), cs[i]? = some c → ts[i]? = some P → PySem.W.CodeHd s.heap c P) (hw : ∀ (i : Nat) (P : Addr), ts[i]? = some P → P = Wld.tb i)
    (bm : ∃ (m : Addr) (o : PySem.Obj), mg "__builtins__" = some (.ref m) ∧ m ≠ builtinsNs ∧ s.heap.get? m = some o ∧ o.cls = .type "module" ∧ o.dict = some builtinsNs ∧ o.data = .plain)
    (ha : s.heap.get? a = some { cls := .type "list", data := .seq vs.toArray }) (hi : IntsAre vs ns) (hl : ns.length ≤ sizeLine) (hr : Room k callerA)
    (F : ∀ base : Heap, K.In base → base.Ns mainGlobals mg → TBs base mg cs ts → FnG P w K mg base k fa fd [x] (spG K 1 f)) (hbind : ∀ (s : Shared) (u : Value), BindsTo s fd ⟨[u], []⟩ [(x, u)])
    {S' : Sto} (h : f [.d (.lst (ns.map D.int))] ((List.range ts.length).map O.tab) = some (.d (.bl true), S')) :
    codeAny (model P w) callerA (.call (.ref fa) ⟨[.ref a], []⟩) (fun r s' => r = .ok (.ret (.bool true)) ∧ OldK s.heap s'.heap ∧ s'.os = s.os ∧ AllBare s'.gens) s := by
  have rv := vals_ints hi
  have aT : a ∉ ts := fun z => by
    have q := tt a z
    rw [ha] at q
    cases q
  have tc : ∀ P ∈ ts, ∃ c, PySem.W.CodeHd s.heap c P := fun P hP => by
    obtain ⟨i, hi⟩ := List.getElem?_of_mem hP
    have hlt : i < cs.length := by rw [hl']; exact (List.getElem?_eq_some_iff.mp hi).1
    exact ⟨_, cd i _ P (List.getElem?_eq_getElem hlt) hi⟩
  have go := fun (H : Hp) (hH : ∀ P ∈ ts, H P = some (.tbl #[])) (hS : LF K H a (ns.map V.int)) => law_coreGT (ns := ns) (H := H) KX hns hb hbb hlim hgen tt tn cd tc bm ha hr F hbind hH
  let T : Hp := fun b => if b ∈ ts then some (.tbl #[]) else none
  have t1 : ∀ b, b ∈ ts → T b = some (.tbl #[]) := fun b z => if_pos z
  have t0 : ∀ b, b ∉ ts → T b = none := fun b z => if_neg z
  cases hk : K.lookup a with
  | some o =>
    obtain rfl : { cls := .type "list", data := .seq vs.toArray } = o := Option.some.inj (ha.symm.trans (KX a o hk))
    have hS : LF K T a (ns.map V.int) := .inr ⟨_, vs.toArray, _, hk, rfl, rfl, rfl, by rw [List.size_toArray, hi.length]; exact hl, by simpa using rv⟩
    refine go T t1 hS (fun b => ?_) (spG_lawT t1 nd hw hS h) (fun b u z => ?_) (fun b z => .inr (Classical.byContradiction fun q => z (t0 b q))) (fun z => absurd (t0 a aT) z)
    · by_cases q : b ∈ ts
      · exact .inr (.inl q)
      · exact .inl (t0 b q)
    · by_cases q : b ∈ ts
      · rw [t1 b q] at z; cases z
        exact tt b q
      · rw [t0 b q] at z; cases z
  | none =>
    let L : HO := .frz { cls := .type "list", data := .seq vs.toArray } (.lst (ns.map V.int))
    let U : Hp := upd T a L
    have u1 : ∀ b, b ∈ ts → U b = some (.tbl #[]) := fun b z => (upd_ne (fun (q : b = a) => aT (by rw [← q]; exact z))).trans (t1 b z)
    have hS : LF K U a (ns.map V.int) := .inl ⟨_, upd_same⟩
    refine go U u1 hS (fun b => ?_) (spG_lawT u1 nd hw hS h) (fun b u z => ?_) (fun b z => ?_) (fun _ => hk)
    · by_cases q : b = a
      · subst q; exact .inr (.inr ⟨_, _, upd_same⟩)
      · by_cases q2 : b ∈ ts
        · exact .inr (.inl q2)
        · exact .inl ((upd_ne q).trans (t0 b q2))
    · by_cases q : b = a
      · subst q
        obtain rfl : L = u := Option.some.inj (upd_same.symm.trans z)
        exact ⟨ha, by rw [List.length_map]; exact hl, vs, _, rv, ha⟩
      · have z' : T b = some u := (upd_ne q).symm.trans z
        by_cases q2 : b ∈ ts
        · rw [t1 b q2] at z'; cases z'
          exact tt b q2
        · rw [t0 b q2] at z'; cases z'
    · by_cases q : b = a
      · exact .inl q
      · exact .inr (Classical.byContradiction fun q2 => z ((upd_ne q).trans (t0 b q2)))
omit [Wld] in
/-- a law's row, tables at ts; tq, lm: the makers' lambdas' names, the lambdas -/
theorem walk_GT {l : PySem.W.OpenLaw} {n k : Nat} {q : Program} {loose : List Str} {XP : (Str → Option Value) → Heap → Prop} {YP : World → Heap → Prop} {d : DefRec} {K : Params → PySem.W.Frag} {x : Str} {ts : List Addr} (tq : Nat → Str) (lm : Nat → Lm)
    (hn : l.most = some n) (hn2 : n ≤ sizeLine) (hdf : d.params.defaults = []) (hr : Room k callerA) (hY : ∀ (w : World) (h : Heap), YP w h → (K w.params).In h) (hT : ∀ (w : World) (h : Heap), YP w h → ∀ P ∈ ts, h.get? P = some (PySem.W.tabObj #[])) (nd : ts.Nodup)
    (F : ∀ (w : World) (mg : Str → Option Value) (fa : Addr) (h : Heap) (i : Wld), w = i.w → (∀ (n : Nat) (P : Addr), ts[n]? = some P → P = i.tb n) → i.tq = tq → i.lm = lm → (K w.params).In h → h.Ns mainGlobals mg → mg d.name = some (.ref fa) →
      ∃ (cs : List Addr) (f : Fn) (fd : FuncData), (∀ P ∈ ts, (K w.params).lookup P = none) ∧ cs.length = ts.length ∧ (∀ (i : Nat) (c P : Addr), cs[i]? = some c → ts[i]? = some P → PySem.W.codeHdIn (K w.params) c P = true) ∧
        (∀ (s : Shared) (u : Value), BindsTo s fd ⟨[u], []⟩ [(x, u)]) ∧ (∀ base : Heap, (K w.params).In base → base.Ns mainGlobals mg → TBs base mg cs ts → FnG l.prog w (K w.params) mg base k fa fd [x] (spG (K w.params) 1 f)) ∧
        ∀ ns : List Int, ns.length ≤ n → (∀ z ∈ ns, Builtin.Int.intBits z ≤ 1048576) → ∃ S', f [.d (.lst (ns.map D.int))] ((List.range ts.length).map O.tab) = some (.d (.bl true), S')) :
    PySem.W.WalkO q loose XP YP l.row.toRowW d [] (fun f vs => PySem.call f vs) :=
  Att.attach_callB hn hdf fun w s₀ s₁ mg mb fa o pm cd doc a vs ns G Y ho hd hcd hmg hobj hints hlen hbits hg =>
    let i : Wld := ⟨w, fun n => ts.getD n 0, tq, lm, fun _ => 0⟩
    have hw : ∀ (n : Nat) (P : Addr), ts[n]? = some P → P = i.tb n := fun n P h => by show P = ts.getD n 0; rw [List.getD_eq_getElem?_getD, h]; rfl
    let ⟨cs, _, fd, hn, hl, hc, hb, hF, hf⟩ := F w mg fa _ i rfl hw rfl rfl (hY w _ Y) G.T.g hmg
    let ⟨_, h⟩ := hf ns hlen hbits
    law_callGT (hY w _ Y) G.T.g G.T.b G.T.builtins G.T.nolimit hg (hT w _ Y) hn hl nd (fun i c P h1 h2 => PySem.W.codeHd_of_K (hY w _ Y) (hc i c P h1 h2)) hw G.T.bmain hobj hints (Nat.le_trans hlen hn2) hr hF hb h
end G

set_option Elab.async false
set_option linter.all false
set_option maxRecDepth 1000000
set_option maxHeartbeats 4000000
/-! GLE: captured cells, tracked for a while. -/
namespace G
variable [Wld]
open PySem PySem.Spec PyProof.Rows L2 LamX NdefX
/-- H, but what f tells at the places of A -/
def pat (A : Addr → Prop) [DecidablePred A] (f H : Hp) : Hp := fun b => if A b then f b else H b
section
variable {A : Addr → Prop} [DecidablePred A] {f H H' H2 : Hp} {h h' : Heap} {b : Addr} {fs : List Addr} {P : Program} {w : World}
omit [Wld] in
theorem pat_in (z : A b) : pat A f H b = f b := if_pos z
omit [Wld] in
theorem pat_out (z : ¬ A b) : pat A f H b = H b := if_neg z
/-- the tracked objects at A are such as stand for themselves -/
def Exs (A : Addr → Prop) (H : Hp) (h : Heap) : Prop := ∀ a, A a → ∃ o v, H a = some (exa a o) ∧ h.get? a = some o ∧ o.data = .cell v
/-- .. taken away -/
theorem hok_drop (k : HOk P w H h) (e : ∀ a, A a → ∃ o, H a = some (exa a o)) : HOk P w (pat A (fun _ => none) H) h := fun b u hb => by
  by_cases z : A b
  · rw [pat_in z] at hb; cases hb
  · rw [pat_out z] at hb
    refine (k b u hb).stay (fun c v _ q => q) (fun c q => ?_) fun c xs q => ?_
    · rw [pat_out fun y => by obtain ⟨o, e1⟩ := e c y; rw [e1] at q; cases q]; exact q
    · rw [pat_out fun y => by obtain ⟨o, e1⟩ := e c y; rw [e1] at q; cases q]; exact q
/-- .. and brought -/
theorem hok_add (k : HOk P w H h) (n : ∀ a, A a → H a = none) (e : ∀ a, A a → ∃ o, f a = some (exa a o) ∧ h.get? a = some o) : HOk P w (pat A f H) h := fun b u hb => by
  by_cases z : A b
  · rw [pat_in z] at hb
    obtain ⟨o, e1, e2⟩ := e b z
    rw [e1] at hb; cases hb
    exact exa_ok e2
  · rw [pat_out z] at hb
    refine (k b u hb).stay (fun c v _ q => q) (fun c q => ?_) fun c xs q => ?_
    · rw [pat_out fun y => by rw [n c y] at q; cases q]; exact q
    · rw [pat_out fun y => by rw [n c y] at q; cases q]; exact q
theorem un_back (u : Un fs [] (pat A (fun _ => none) H) H' h h') (e : ∀ a, A a → ∃ o, H a = some (exa a o) ∧ h.get? a = some o) (n : ∀ a, A a → a ∉ fs) :
    Un fs [] H (pat A H H') h h' ∧ (∀ a, A a → H' a = none) ∧ ∀ a o, A a → h.get? a = some o → h'.get? a = some o := by
  have out : ∀ b, H b = none → ¬ A b := fun b hb z => by obtain ⟨o, e1, _⟩ := e b z; rw [e1] at hb; cases hb
  have ne : ∀ b w, H b = some w → (∀ p, w ≠ .ext p) → ¬ A b := fun b w hb hw z => by
    obtain ⟨o, e1, _⟩ := e b z
    rw [e1] at hb
    exact hw _ (Option.some.inj hb).symm
  refine ⟨⟨fun b o q1 q2 q3 q4 => u.keep b o q1 ((pat_out (out b q2)).trans q2) q3 q4, fun b o q1 q2 q3 q4 => u.slot b o q1 ((pat_out (out b q2)).trans q2) q3 q4, fun b o q1 q2 q3 => (pat_out (out b q2)).trans (u.free b o q1 ((pat_out (out b q2)).trans q2) q3), u.there, fun b xs q => ?_, fun b o v q => ?_, fun b ps q => ?_⟩, fun a z => ?_, fun a o z q => ?_⟩
  · have z := ne b _ q fun _ y => nomatch y
    exact (pat_out z).trans (u.tups b xs ((pat_out z).trans q))
  · have z := ne b _ q fun _ y => nomatch y
    exact (pat_out z).trans (u.frzs b o v ((pat_out z).trans q))
  · have z := ne b _ q fun _ y => nomatch y
    obtain ⟨m, k⟩ := u.tbls b ps ((pat_out z).trans q)
    exact ⟨m, (pat_out z).trans k⟩
  · obtain ⟨o, e1, e2⟩ := e a z
    exact u.free a o e2 (pat_in z) (by simp)
  · exact u.keep a o q (pat_in z) (n a z) (by simp)
theorem un_drop (u : Un fs [] (pat A f H) H' h h') (n : ∀ a, A a → H a = none) (k : ∀ a, A a → H' a = f a) (e : ∀ a, A a → ∃ o, f a = some (exa a o) ∧ h.get? a = some o) (hok : HOk P w H' h') :
    Un fs [] H (pat A (fun _ => none) H') h h' := by
  have ne : ∀ b w, H b = some w → ¬ A b := fun b w hb z => by rw [n b z] at hb; cases hb
  have same : ∀ b o, A b → h.get? b = some o → h'.get? b = some o := fun b o z q => by
    obtain ⟨o', e1, e2⟩ := e b z
    rw [e2] at q; cases q
    exact (hok b _ ((k b z).trans e1)).1
  refine ⟨fun b o q1 q2 q3 q4 => ?_, fun b o q1 q2 q3 q4 => ?_, fun b o q1 q2 q3 => ?_, u.there, fun b xs q => ?_, fun b o v q => ?_, fun b ps q => ?_⟩
  · by_cases z : A b
    · exact same b o z q1
    · exact u.keep b o q1 ((pat_out z).trans q2) q3 q4
  · by_cases z : A b
    · exact ⟨o.slots, same b o z q1⟩
    · exact u.slot b o q1 ((pat_out z).trans q2) q3 q4
  · by_cases z : A b
    · exact pat_in z
    · exact (pat_out z).trans (u.free b o q1 ((pat_out z).trans q2) q3)
  · have z := ne b _ q
    exact (pat_out z).trans (u.tups b xs ((pat_out z).trans q))
  · have z := ne b _ q
    exact (pat_out z).trans (u.frzs b o v ((pat_out z).trans q))
  · have z := ne b _ q
    obtain ⟨m, k⟩ := u.tbls b ps ((pat_out z).trans q)
    exact ⟨m, (pat_out z).trans k⟩
end
/-! ### data, where cells are no more tracked -/
section
variable {K : PySem.W.Frag} {H0 H H' : Hp} {ι0 ι : List Addr}
/-- what data ask of H' behind H -/
structure Wk (H H' : Hp) : Prop where
  tup : ∀ a xs, H a = some (.tup xs) → H' a = some (.tup xs)
  frz : ∀ a o u, H a = some (.frz o u) → H' a = some (.frz o u)
theorem wk_t (s : Wk H H') {a : Addr} {xs : List V} (h : SqTn K H a xs) : SqTn K H' a xs := by
  rcases h with ⟨o, h, d⟩ | h
  · exact .inl ⟨o, s.frz _ _ _ h, d⟩
  · exact .inr h
theorem wk_l (s : Wk H H') {a : Addr} {xs : List V} (h : LF K H a xs) : LF K H' a xs := by
  rcases h with ⟨o, h⟩ | h
  · exact .inl ⟨o, s.frz _ _ _ h⟩
  · exact .inr h
mutual
/-- exceptions in the data were there before -/
theorem RD.wk (s : Wk H H') (x : ∀ a C, ExcS H0 a C → ExcS H' a C) : ∀ (d : D) (v0 v : V), RD K H0 ι0 v0 d → RD K H ι v d → RD K H' ι v d
  | .non, _, _, _, h => by cases h; exact .non
  | .bl b, _, _, _, h => by cases h; exact .bl b
  | .int i, _, _, _, h => by cases h; exact .int i
  | .str y, _, _, _, h => by cases h; exact .str y
  | .tup ds, _, _, h0, h => by cases h0 with | tup _ g => cases h with | tup h1 h2 => exact .tup (wk_t s h1) (RDs.wk s x ds _ _ g h2)
  | .lst ds, _, _, h0, h => by cases h0 with | lst _ g => cases h with | lst h1 h2 => exact .lst (wk_l s h1) (RDs.wk s x ds _ _ g h2)
  | .dic ks ds, _, _, h0, h => by cases h0 with | dic _ _ g => cases h with | dic h1 h2 h3 => exact .dic (s.frz _ _ _ h1) h2 (RDs.wk s x ds _ _ g h3)
  | .ref n, _, _, _, h => by cases h with | ref h1 => exact .ref h1
  | .fn a, _, _, _, h => by cases h; exact .fn a
  | .exc C ns ds, _, _, h0, h => by cases h0 with | exc _ _ _ _ _ g => cases h with | exc h1 h2 h3 h4 h5 h6 => exact .exc (s.frz _ _ _ h1) h2 h3 (h4.mono fun _ _ _ => s.frz _ _ _) h5 (RDs.wk s x ds _ _ g h6)
theorem RDs.wk (s : Wk H H') (x : ∀ a C, ExcS H0 a C → ExcS H' a C) : ∀ (ds : List D) (vs0 vs : List V), RDs K H0 ι0 vs0 ds → RDs K H ι vs ds → RDs K H' ι vs ds
  | [], _, _, _, h => by cases h; exact .nil
  | d :: ds, _, _, h0, h => by cases h0 with | cons g1 g2 => cases h with | cons h1 h2 => exact .cons (RD.wk s x d _ _ g1 h1) (RDs.wk s x ds _ _ g2 h2)
end
mutual
theorem RD.wkD (s : Wk H H') : ∀ (d : D) (v : V), datB d = true → RD K H ι v d → RD K H' ι v d
  | .non, _, _, h => by cases h; exact .non
  | .bl b, _, _, h => by cases h; exact .bl b
  | .int i, _, _, h => by cases h; exact .int i
  | .str y, _, _, h => by cases h; exact .str y
  | .tup ds, _, e, h => by cases h with | tup h1 h2 => exact .tup (wk_t s h1) (RDs.wkD s ds _ (by simpa only [datB] using e) h2)
  | .lst ds, _, e, h => by cases h with | lst h1 h2 => exact .lst (wk_l s h1) (RDs.wkD s ds _ (by simpa only [datB] using e) h2)
  | .dic ks ds, _, e, h => by cases h with | dic h1 h2 h3 => exact .dic (s.frz _ _ _ h1) h2 (RDs.wkD s ds _ (by simpa only [datB] using e) h3)
  | .ref n, _, e, _ => by cases e
  | .fn a, _, e, _ => by cases e
  | .exc _ _ _, _, e, _ => by cases e
theorem RDs.wkD (s : Wk H H') : ∀ (ds : List D) (vs : List V), datsB ds = true → RDs K H ι vs ds → RDs K H' ι vs ds
  | [], _, _, h => by cases h; exact .nil
  | d :: ds, _, e, h => by
    have e' : datB d = true ∧ datsB ds = true := by simpa only [datsB, Bool.and_eq_true] using e
    cases h with | cons h1 h2 => exact .cons (RD.wkD s d _ e'.1 h1) (RDs.wkD s ds _ e'.2 h2)
end
theorem paired_two {α β γ : Type} {R : α → γ → Prop} {T : β → γ → Prop} {U : β → γ → Prop} (go : ∀ a b c, R a c → T b c → U b c) : ∀ {l : List α} {m : List β} {n : List γ}, Paired R l n → Paired T m n → Paired U m n
  | _, _, _, .nil, .nil => .nil
  | _, _, _, .cons r rs, .cons t ts => .cons (go _ _ _ r t) (paired_two go rs ts)
theorem RO.wk (s : Wk H H') (x : ∀ a C, ExcS H0 a C → ExcS H' a C) (cd : ∀ a q, H a = some (CodeO a q) → H' a = some (CodeO a q)) {a : Addr} {o : O} (k : ∀ u, H a = some u → H' a = some u) (h0 : RO K H0 ι0 a o) (h : RO K H ι a o) : RO K H' ι a o := by
  cases o with
  | tab n => obtain ⟨e, ps, h1, h2, h3⟩ := h; exact ⟨e, ps, k _ h1, h2, fun pos cv hc => let ⟨c, e1, e2⟩ := h3 pos cv hc; ⟨c, e1, cd _ _ e2⟩⟩
  | ins c ns ds => obtain ⟨_, _, _, _, g⟩ := h0; obtain ⟨dx, xs, h1, h2, h3⟩ := h; exact ⟨dx, xs, k _ h1, h2, RDs.wk s x _ _ _ g h3⟩
  | lst ds => obtain ⟨_, _, g⟩ := h0; obtain ⟨xs, h1, h2⟩ := h; exact ⟨xs, k _ h1, RDs.wk s x _ _ _ g h2⟩
  | dct kvs => obtain ⟨_, _, g⟩ := h0; obtain ⟨ws, h1, h2⟩ := h; exact ⟨ws, k _ h1, paired_two (fun p q r z1 z2 => ⟨z2.1, RD.wk s x _ _ _ z1.2 z2.2⟩) g h2⟩
  | kx kvs => obtain ⟨_, _, _, g⟩ := h0; obtain ⟨o, ws, h1, h2⟩ := h; exact ⟨o, ws, k _ h1, paired_two (fun p q r z1 z2 => ⟨z2.1, RD.wk s x _ _ _ z1.2 z2.2⟩) g h2⟩
  | kd kvs =>
    obtain ⟨_, _, _, _, g⟩ := h0
    obtain ⟨o, es, ep, xs, h⟩ := h
    exact ⟨o, es, ep, xs, k _ h.at_, h.ex, h.dt, h.en, h.nd, h.sz, h.sm, h.dp, h.md, paired_two (fun p q r z1 z2 => ⟨z2.1, (by
      rcases z2.2.1 with ⟨t, y, r2, d2⟩ | t
      · rcases z1.2.1 with ⟨_, y1, _, d1⟩ | ⟨t1, _⟩
        · exact .inl ⟨t, y, r2, RD.wk s x _ _ _ d1 d2⟩
        · rw [Option.some.inj (z1.1.symm.trans z2.1), t] at t1; cases t1
      · exact .inr t), z2.2.2.1, RD.wk s x _ _ _ z1.2.2.2 z2.2.2.2⟩) g.pr h.pr⟩
end
end G

set_option Elab.async false
set_option linter.all false
set_option maxRecDepth 1000000
set_option maxHeartbeats 4000000
/-! GLF: a lambda handed to a def; its call there. -/
namespace G
variable [Wld]
open PySem PySem.Spec PyProof.Rows L2 LamX NdefX
/-- the cells of a closure -/
def inCl (cl : List (Str × Addr)) (a : Addr) : Prop := ∃ y, cl.lookup y = some a
section
variable {P : Program} {w : World} {K : PySem.W.Frag} {mg : Str → Option Value} {base : Heap} {A0 : Around} {outer : List PySem.Env} {s : Shared} {H : Hp} {A : Addr → Prop} [DecidablePred A]
theorem Env0.drop (e : Env0 P w K mg base A0 outer s H) (x : ∀ a, A a → ∃ o, H a = some (exa a o)) : Env0 P w K mg base A0 outer s (pat A (fun _ => none) H) := by
  have k : ∀ b, H b = none → pat A (fun _ => none) H b = none := fun b h => by
    by_cases z : A b
    · exact pat_in z
    · exact (pat_out z).trans h
  exact ⟨e.frames, e.mod, fun b o h => ⟨(e.bs b o h).1, k b (e.bs b o h).2⟩, e.bsz, e.funs, fun b h => k b (e.frf b h), hok_drop e.hok x, e.bare⟩
theorem Env0.add {f : Hp} (e : Env0 P w K mg base A0 outer s H) (n : ∀ a, A a → H a = none) (x : ∀ a, A a → ∃ o, f a = some (exa a o) ∧ s.heap.get? a = some o) (nb : ∀ a, A a → base.get? a = none) (nf : ∀ a, A a → a ∉ frs outer) : Env0 P w K mg base A0 outer s (pat A f H) :=
  ⟨e.frames, e.mod, fun b o h => ⟨(e.bs b o h).1, (pat_out fun z => by rw [nb b z] at h; cases h).trans (e.bs b o h).2⟩, e.bsz, e.funs, fun b h => (pat_out fun z => nf b z h).trans (e.frf b h), hok_add e.hok n x, e.bare⟩
end
section
variable {K : PySem.W.Frag} {H H' : Hp} {ι : List Addr} {S : Sto}
/-- what is tracked besides stays -/
theorem stay_ext (k : ∀ b u, H b = some u → H' b = some u) : Stay H H' := ⟨fun a xs e => k _ _ e, fun a o u e => k _ _ e, fun a C e => by
  rcases e with e | ⟨dd, u, e, e2, e3⟩
  · exact .inl (k _ _ e)
  · exact .inr ⟨dd, u, k _ _ e, k _ _ e2, e3⟩, fun a q e => k _ _ e, fun a u e _ => k _ _ e⟩
theorem RelS.ext (R : RelS K H ι S) (k : ∀ b u, H b = some u → H' b = some u) : RelS K H' ι S := ⟨R.ilen, fun n o a h1 h2 => (R.st n o a h1 h2).mono (stay_ext k) ⟨[], by simp⟩ fun u => k _ u, R.nd⟩
/-- no cell is one of the store's -/
theorem RelS.away (R : RelS K H ι S) {a : Addr} {u : HO} (h : H a = some u) (l : LmU a u) : a ∉ ι := (R.rel.away h l).1
theorem exa_cell {a : Addr} {o : PySem.Obj} {v : Option Value} (h : o.data = .cell v) : LmU a (exa a o) := .inr ⟨o, v, rfl, h⟩
/-- the store, cells no more tracked -/
theorem RelS.drop {H0 : Hp} {ι0 : List Addr} {A : Addr → Prop} [DecidablePred A] (R0 : RelS K H0 ι S) (R : RelS K H ι S) (x : ∀ a, A a → ∃ o v, H a = some (exa a o) ∧ o.data = .cell v) (ex : ∀ a C, ExcS H0 a C → ExcS (pat A (fun _ => none) H) a C) : RelS K (pat A (fun _ => none) H) ι S := by
  have ne : ∀ b u, H b = some u → (∀ o v, o.data = .cell v → u ≠ exa b o) → pat A (fun _ => none) H b = some u := fun b u h hu => (pat_out fun z => by
    obtain ⟨o, v, e1, e2⟩ := x b z
    rw [e1] at h
    exact hu o v e2 (Option.some.inj h).symm).trans h
  refine ⟨R.ilen, fun n o a h1 h2 => RO.wk (H0 := H0) (ι0 := ι) ⟨fun b xs h => ne b _ h fun _ _ _ z => (nomatch z), fun b p u h => ne b _ h fun _ _ _ z => (nomatch z)⟩ ex (fun b q h => ne b _ h fun o' v e z => ?_) (fun u h => ne a u h fun o' v e z => ?_) (R0.st n o a h1 h2) (R.st n o a h1 h2), R.nd⟩
  · unfold CodeO at z
    have hg := at_rep (a := b) (o := o') (fun q => by rw [e] at q; cases q)
    obtain ⟨oc, vs, t, e1, e2, _⟩ := (congrFun (HO.ext.inj z) { objs := Array.replicate (b + 1) o' }).mpr hg
    rw [hg] at e1
    cases e1
    rw [e] at e2; cases e2
  · subst z
    exact (R.st n o a h1 h2).nlm h (exa_cell e)
end
/-! ### the call of what a slot holds -/
theorem cell_ns {a : Addr} {o : PySem.Obj} {v : Option Value} (h : o.data = .cell v) : (∀ C, exa a o ≠ ExO (.ref C) a) ∧ (∀ C d, exa a o ≠ exo a C d) ∧ (∀ q, exa a o ≠ CodeO a q) ∧ ∀ F b, exa a o ≠ LmO a F b := by
  have hg := at_rep (a := a) (o := o) (fun q => by rw [h] at q; cases q)
  refine ⟨fun C z => ?_, fun C d z => ?_, fun q z => ?_, fun F b z => ?_⟩
  · obtain ⟨oe, vs, h1, _, h2, _⟩ := (congrFun (HO.ext.inj z) { objs := Array.replicate (a + 1) o }).mp hg
    rw [hg] at h1
    cases h1
    rw [h] at h2; cases h2
  · obtain ⟨t1, h1⟩ := (congrFun (HO.ext.inj z) { objs := Array.replicate (a + 1) o }).mp hg
    rw [hg] at h1
    cases h1
    cases h
  · unfold CodeO at z
    obtain ⟨oe, vs, t, h1, h2, _⟩ := (congrFun (HO.ext.inj z) { objs := Array.replicate (a + 1) o }).mp hg
    rw [hg] at h1
    cases h1
    rw [h] at h2; cases h2
  · unfold LmO at z
    obtain ⟨od, sl, pm, tv, h1⟩ := (congrFun (HO.ext.inj z) { objs := Array.replicate (a + 1) o }).mp hg
    rw [hg] at h1
    rw [Option.some.inj h1] at h
    cases h
theorem choose_list {α : Type} {P : Nat → α → Prop} : ∀ n : Nat, (∀ j, j < n → ∃ v, P j v) → ∃ ws : List α, ws.length = n ∧ ∀ j v, ws[j]? = some v → P j v
  | 0, _ => ⟨[], rfl, fun j v h => by simp at h⟩
  | n + 1, h => by
    obtain ⟨ws, h1, h2⟩ := choose_list n fun j hj => h j (Nat.lt_succ_of_lt hj)
    obtain ⟨v, hv⟩ := h n (Nat.lt_succ_self n)
    refine ⟨ws ++ [v], by simp [h1], fun j x hx => ?_⟩
    by_cases hj : j < ws.length
    · rw [List.getElem?_append_left hj] at hx; exact h2 j x hx
    · rw [List.getElem?_append_right (by omega)] at hx
      obtain ⟨hlt, _⟩ := List.getElem?_eq_some_iff.mp hx
      simp at hlt
      obtain rfl : j = n := by omega
      rw [show j - ws.length = 0 by omega] at hx
      simp at hx; subst hx
      exact hv
theorem paired_of {α β : Type} {R : α → β → Prop} : ∀ {l : List α} {m : List β}, l.length = m.length → (∀ (i : Nat) (a : α) (b : β), l[i]? = some a → m[i]? = some b → R a b) → Paired R l m
  | [], [], _, _ => .nil
  | [], _ :: _, h, _ => by simp at h
  | _ :: _, [], h, _ => by simp at h
  | a :: l, b :: m, h, g => .cons (g 0 a b rfl rfl) (paired_of (by simpa using h) fun i x y h1 h2 => g (i + 1) x y (by simpa using h1) (by simpa using h2))
section
variable {X : Cx} {pins : List (Addr × PySem.Obj)} {σ : SV} {H : Hp} {s : Shared} {ι : List Addr} {S S' : Sto} {k np id : Nat} {f : List (Option D) → Fn} {cs : List D} {v : V} {vs : List V} {us : List Value} {sls : List Sl} {r : Rt}
/-- the lambda id of the text and what it computes -/
abbrev LmOk (P : Program) (w : World) (K : PySem.W.Frag) (mg : Str → Option Value) (base : Heap) (k id np : Nat) (f : List (Option D) → Fn) : Prop := LOk P w K mg base k (Wld.lm id).q (Wld.lm id).ps (Wld.lm id).b (Wld.lm id).sc np (Wld.lm id).fr f
theorem RSl.ext {H' : Hp} (k : ∀ b u, H b = some u → H' b = some u) {s : Sl} (h : RSl X.K H ι v s) : RSl X.K H' ι v s := h.mono (stay_ext k) ⟨[], by simp⟩ fun a u _ _ e => k _ _ e
open Classical in
theorem lm_call {fa : Addr} {Z : Addr → Prop} (I : Inv X pins σ H s) (R : RelS X.K H ι S) (L : LmOk X.prog X.w X.K X.mg X.base k id np f) (hr : Room k X.A) (hg : X.A.guards = some []) (h : LmR X.K H ι (.ref fa) id cs Z) (rv : Vals vs us) (hl : vs.length = np)
    (hs : ∃ ds, sls = ds.map Sl.d ∧ RDs X.K H ι vs ds) (hm : f (cs.map some) sls S = some (r, S')) :
    wpAny (model X.prog X.w) X.A (call (.ref fa) us) (fun u t' => ∃ v H2 ι2, Inv X pins σ H2 t' ∧ RelV v u ∧ RelS X.K H2 ι2 S' ∧ PostC H ι H2 ι2 ∧ RRt X.K H H2 ι2 v r) X.xe s := by
  obtain ⟨fa', c, cl, e0, h1, h2, _, h4, h5, h6, h7⟩ := h
  cases e0
  have xs : ∀ a, inCl cl a → ∃ o v, H a = some (exa a o) ∧ o.data = .cell v := fun a ⟨y, e⟩ => (h4 y a e).2
  have at_ : ∀ a o, H a = some (exa a o) → s.heap.get? a = some o := fun a o e => (I.hok a _ e).1
  have x0 : ∀ a, inCl cl a → ∃ o, H a = some (exa a o) := fun a z => let ⟨o, v, e, _⟩ := xs a z; ⟨o, e⟩
  have x1 : ∀ a, inCl cl a → ∃ o, H a = some (exa a o) ∧ s.heap.get? a = some o := fun a z => let ⟨o, v, e, _⟩ := xs a z; ⟨o, e, at_ a o e⟩
  have nl : ∀ b u, H b = some u → (∀ o v, o.data = .cell v → exa b o ≠ u) → pat (inCl cl) (fun _ => none) H b = some u := fun b u e hu => (pat_out fun z => by
    obtain ⟨o, v, e1, e2⟩ := xs b z
    rw [e1] at e
    exact hu o v e2 (Option.some.inj e)).trans e
  have f1 := nl _ _ h1 fun o v e => (cell_ns e).2.2.2 _ _
  have c1 := nl _ _ h2 fun o v e => (cell_ns e).2.2.1 _
  have wk : Wk H (pat (inCl cl) (fun _ => none) H) := ⟨fun b ys e => nl _ _ e fun _ _ _ z => (nomatch z), fun b o u e => nl _ _ e fun _ _ _ z => (nomatch z)⟩
  have ex : ∀ a C, ExcS H a C → ExcS (pat (inCl cl) (fun _ => none) H) a C := fun a C e => by
    rcases e with e | ⟨dd, u, e, e2, e3⟩
    · exact .inl (nl _ _ e fun o v z => (cell_ns z).1 _)
    · exact .inr ⟨dd, u, nl _ _ e fun o v z => (cell_ns z).2.1 _ _, nl _ _ e2 fun o v z y => e3 (y ▸ exa_cell z), e3⟩
  -- the captured values
  obtain ⟨ws, lw, pw⟩ := choose_list (P := fun j v => ∃ y d a o u, (Wld.lm id).fr[j]? = some y ∧ cs[j]? = some d ∧ cl.lookup y = some a ∧ H a = some (exa a o) ∧ o.data = .cell (some u) ∧ RelV v u ∧ RD X.K H ι v d) cs.length fun j hj => by
    have e1 := List.getElem?_eq_getElem hj
    have hj2 : j < (Wld.lm id).fr.length := by omega
    have e2 := List.getElem?_eq_getElem hj2
    obtain ⟨a, o, u, v, q⟩ := h7 j _ _ e2 e1
    exact ⟨v, _, _, a, o, u, e2, e1, q⟩
  have C : CellsAt cl (Wld.lm id).fr (ws.map some) s.heap (pat (inCl cl) (fun _ => none) H) := by
    refine ⟨by rw [List.length_map]; omega, fun y a e => ⟨pat_in ⟨y, e⟩, ?_⟩, h5, fun i y hi => ?_⟩
    · obtain ⟨_, o, v, e1, e2⟩ := h4 y a e
      exact ⟨v, o, at_ a o e1, e2⟩
    · have hj : i < ws.length := by have := (List.getElem?_eq_some_iff.mp hi).1; omega
      obtain ⟨y', d, a, o, u, q1, q2, q3, q4, q5, q6, q7⟩ := pw i _ (List.getElem?_eq_getElem hj)
      rw [hi] at q1
      cases q1
      refine ⟨a, q3, fun v hv => ?_⟩
      rw [List.getElem?_map, List.getElem?_eq_getElem hj] at hv
      simp at hv
      subst hv
      exact ⟨u, q6, o, at_ a o q4, q5⟩
  have W : RWs X.K (pat (inCl cl) (fun _ => none) H) ι (ws.map some) (cs.map some) := by
    refine paired_of (by simp [lw]) fun i a b e1 e2 x hx => ?_
    rw [List.getElem?_map] at e1 e2
    obtain ⟨v, e3, rfl⟩ := Option.map_eq_some_iff.mp e1
    obtain ⟨d, e4, rfl⟩ := Option.map_eq_some_iff.mp e2
    cases hx
    obtain ⟨y', d', a, o, u, q1, q2, q3, q4, q5, q6, q7⟩ := pw i v e3
    rw [e4] at q2
    cases q2
    exact ⟨v, rfl, RD.wk wk ex _ _ _ q7 q7⟩
  have R1 := RelS.drop (ι0 := ι) R R xs ex
  obtain ⟨ds, rfl, rd⟩ := hs
  have S1 : ∀ {vs : List V} {ds : List D}, RDs X.K H ι vs ds → RSls X.K (pat (inCl cl) (fun _ => none) H) ι vs (ds.map Sl.d) := fun {vs ds} h => by
    induction ds generalizing vs with
    | nil => cases h; exact .nil
    | cons d ds ih => cases h with | cons h1 h2 => exact .cons (s := .d d) (RD.wk wk ex _ _ _ h1 h1) (fun _ _ z => z.elim) (fun z => z) (ih h2)
  have e0 := Env0.drop I.env0 x0
  refine wpAny_call (codeAny_mono (L.run X.A X.stack s (pat (inCl cl) (fun _ => none) H) fa c cl us vs (ws.map some) (cs.map some) ι (ds.map Sl.d) S r S' hr hg e0 f1 c1 C rv hl R1 (S1 rd) W hm) fun z s' hz => ?_)
  match z, hz with
  | .error e, hz => exact hz.elim
  | .ok .next, hz => exact hz.elim
  | .ok .brk, hz => exact hz.elim
  | .ok .cont, hz => exact hz.elim
  | .ok (.ret u), hz =>
    obtain ⟨v, H', os, bare, un, hok, rvu, ι2, q1, q2, q3⟩ := hz
    have nf : ∀ a, inCl cl a → a ∉ frs X.stack := fun a z y => by
      obtain ⟨o, e⟩ := x0 a z
      rw [I.stkFree a y] at e; cases e
    obtain ⟨un2, n2, k2⟩ := un_back un x1 nf
    have up : ∀ b u, H' b = some u → pat (inCl cl) H H' b = some u := fun b u e => (pat_out fun z => by rw [n2 b z] at e; cases e).trans e
    have hok2 : HOk X.prog X.w (pat (inCl cl) H H') s'.heap := hok_add hok n2 fun a z => let ⟨o, e1, e2⟩ := x1 a z; ⟨o, e1, k2 a o z e2⟩
    have I2 := I.call' os un2 hok2 bare (fun b hb => absurd hb (by simp))
    have keep : ∀ b u, H b = some u → b ∉ ι → pat (inCl cl) H H' b = some u ∧ b ∉ ι2 := fun b u e hb => by
      by_cases z : inCl cl b
      · refine ⟨(pat_in z).trans e, fun y => ?_⟩
        obtain ⟨n, hn⟩ := List.getElem?_of_mem y
        have hlt := (List.getElem?_eq_some_iff.mp hn).1
        rw [q1.ilen] at hlt
        obtain ⟨w, hw, _⟩ := (q1.st n _ b (List.getElem?_eq_getElem hlt) hn).there
        rw [n2 b z] at hw; cases hw
      · obtain ⟨k1, k3⟩ := q2.keep b u ((pat_out z).trans e) hb
        exact ⟨(pat_out z).trans k1, k3⟩
    have dom : ∀ b u, H b = some u → ∃ u', pat (inCl cl) H H' b = some u' := fun b u e => by
      by_cases z : inCl cl b
      · exact ⟨u, (pat_in z).trans e⟩
      · obtain ⟨u', e'⟩ := q2.dom b u ((pat_out z).trans e)
        exact ⟨u', (pat_out z).trans e'⟩
    have st : Stay H (pat (inCl cl) H H') := by
      refine ⟨fun a ys e => ?_, fun a o u e => ?_, fun a C e => ?_, fun a q e => ?_, fun a u e l => (keep a u e (R.away e l)).1⟩
      · exact up _ _ (q2.stay.tup a ys (nl _ _ e fun _ _ _ z => (nomatch z)))
      · exact up _ _ (q2.stay.frz a o u (nl _ _ e fun _ _ _ z => (nomatch z)))
      · have e' := q2.stay.exc a C (ex a C e)
        rcases e' with e' | ⟨dd, u, e1, e2, e3⟩
        · exact .inl (up _ _ e')
        · exact .inr ⟨dd, u, up _ _ e1, up _ _ e2, e3⟩
      · exact up _ _ (q2.stay.cod a q (nl _ _ e fun o v z => (cell_ns z).2.2.1 _))
    refine ⟨v, _, ι2, I2, rvu, q1.ext up, ⟨q2.pre, st, dom, keep⟩, ?_⟩
    cases r with
    | d x => exact RD.mono (stay_ext up) ⟨[], by simp⟩ _ _ q3
    | new o =>
      obtain ⟨a, rfl, ro, n3, n4⟩ := q3
      refine ⟨a, rfl, ro.mono (stay_ext up) ⟨[], by simp⟩ fun u e => up _ _ e, n3, ?_⟩
      obtain ⟨u, hu, _⟩ := ro.there
      have : ¬ inCl cl a := fun z => by rw [n2 a z] at hu; cases hu
      exact (pat_out this).symm.trans n4
end
end G

set_option Elab.async false
set_option linter.all false
set_option maxRecDepth 1000000
set_option maxHeartbeats 4000000
/-! GLG: the rules: a lambda called, a lambda handed over. -/
namespace G
variable [Wld]
open PySem PySem.Spec PyProof.Rows L2 LamX NdefX
/-- the call of the lambda id in the slot i -/
def mCallLm (i id n : Nat) (f : List (Option D) → Fn) (ms : M (List R)) : M R := bnd (mVar i) fun r => match r with
  | .lm j cs => if j = id then bnd ms fun rs e S => match dsOf rs with
    | some ds => if ds.length = n then (f (cs.map some) (ds.map Sl.d) S).map fun (r, S') => (r.r, e, S') else none
    | none => none
    else stk
  | _ => stk
section
variable {X : Cx} {k np id i : Nat} {f : List (Option D) → Fn} {x : Str} {ex : Expr} {es : List Expr} {ms : M (List R)} {p pos : Pos}
end

/-! ### a lambda handed over -/
def capts (e : En) : List Nat → Option (List D)
  | [] => some []
  | j :: js => match capt e j, capts e js with
    | some d, some ds => some (d :: ds)
    | _, _ => none
theorem capts_at {e : En} : ∀ {js : List Nat} {cs : List D}, capts e js = some cs → cs.length = js.length ∧ ∀ (i j : Nat) (d : D), js[i]? = some j → cs[i]? = some d → e[j]? = some (some (.d d))
  | [], _, h => by cases h; exact ⟨rfl, fun i j d h => by simp at h⟩
  | j :: js, cs, h => by
    unfold capts at h
    split at h
    · rename_i d ds h1 h2
      cases h
      obtain ⟨q1, q2⟩ := capts_at h2
      refine ⟨by simp [q1], fun i k d' e1 e2 => ?_⟩
      cases i with
      | zero =>
        simp at e1 e2
        subst e1 e2
        unfold capt at h1
        split at h1
        · cases h1; assumption
        · cases h1
      | succ i => exact q2 i k d' (by simpa using e1) (by simpa using e2)
    · cases h
def mPassLm (n id : Nat) (js : List Nat) (f : Fn) (m : M R) : M R := bnd m fun r e S => match S[n]?, toArg r e, capts e js with
  | some (.tab k), some s, some cs => if k = n then (f [s, .lm id cs] S).map fun (r, S') => (r.r, e, S') else none
  | _, _, _ => none
theorem excs_drop {A : Addr → Prop} [DecidablePred A] {H : Hp} (x : ∀ a, A a → ∃ o v, H a = some (exa a o) ∧ o.data = .cell v) {a C : Addr} (h : ExcS H a C) : ExcS (pat A (fun _ => none) H) a C := by
  have nl : ∀ b u, H b = some u → (∀ o v, o.data = .cell v → exa b o ≠ u) → pat A (fun _ => none) H b = some u := fun b u e hu => (pat_out fun z => by
    obtain ⟨o, v, e1, e2⟩ := x b z
    rw [e1] at e
    exact hu o v e2 (Option.some.inj e)).trans e
  rcases h with e | ⟨dd, u, e, e2, e3⟩
  · exact .inl (nl _ _ e fun o v z => (cell_ns z).1 _)
  · exact .inr ⟨dd, u, nl _ _ e fun o v z => (cell_ns z).2.1 _ _, nl _ _ e2 fun o v z y => e3 (y ▸ exa_cell z), e3⟩
section
variable {X : Cx} {k n id : Nat} {f : Fn} {x : Str} {ex : Expr} {m : M R} {p pos lpos : Pos} {params : Arguments} {b : Expr} {scope : Scope} {fr : List Str} {js : List Nat} {c : Addr}
open Classical in
/-- x(ex, lambda ..), x a def of the text -/
theorem ge_passLm (F : GF X.prog X.w X.K X.mg X.base k x 2 f) (hr : Room k X.A) (hgd : X.A.guards = some []) (hg : Gl X x) (ha : GE X ex m) (TB : TabB X.base X.mg c (Wld.tb n)) (hcode : X.env.code = .ref c) (hq : Wld.tq n = X.env.qual ++ "<lambda>")
    (hlm : Wld.lm id = ⟨Wld.tq n, params, b, scope, fr⟩) (hfn : ∀ y, X.fn y = true)
    (hfree : ∀ y ∈ scope.names, y.2 = .free → X.env.scope.names.lookup y.1 = some .cell ∨ X.env.scope.names.lookup y.1 = some .free) (hfr : ∀ y ∈ fr, (y, NameKind.free) ∈ scope.names) (hjs : js.map (fun j => X.N[j]?) = fr.map some) (hdef : defaultsOf params X.env = ([], []))
    (hdb : (x == ("__debug__" : Str)) = false := by decide) (h1 : starEach [ex, .Lambda params b scope lpos] X.env = (false, eval ex X.env) :: starEach [.Lambda params b scope lpos] X.env := by rfl) (h2 : starEach [.Lambda params b scope lpos] X.env = (false, eval (.Lambda params b scope lpos) X.env) :: starEach [] X.env := by rfl)
    (hpl : (backTo pos (starEach [.Lambda params b scope lpos] X.env)).any (·.1) = false := by rfl) : GE X (.Call (.Name x p) [ex, .Lambda params b scope lpos] [] pos) (mPassLm n id js f m) := by
  refine ⟨fun pins s σ H Q I h => ?_⟩
  obtain ⟨ι, e, S, r, e', S', R, hm0, q⟩ := h
  obtain ⟨r0, e1, S1, h0, hm⟩ := bnd_eq hm0
  clear hm0
  have hm' : (match S1[n]?, toArg r0 e1, capts e1 js with
    | some (.tab k), some s, some cs => if k = n then (f [s, .lm id cs] S1).map fun (r, S') => (r.r, e1, S') else none
    | _, _, _ => none) = some (r, e', S') := hm
  clear hm
  obtain ⟨fg, fd, ps, ok, hmg, hk, hb⟩ := F.ex
  split at hm'
  · rename_i kk sa cs hS hsa hcs
    split at hm'
    · rename_i hkn
      subst hkn
      obtain ⟨⟨rt, S3⟩, h3, e3⟩ := Option.map_eq_some_iff.mp hm'
      cases e3
      have pa := pa_cons ha (pa_cons (pe_lm (pos := lpos) TB hcode hq hdef hfree) pa_nil h2) h1
      refine wpAny_Call_Name_kw (ld_glob I hg hmg ?_ hdb)
      refine PySem.W.callWith_K (h₀ := X.base) I.ok.mod.kin hk (thn (pa.run pos pins s σ H (fun vs H2 => ∃ v fa c ι2, vs = [v, .ref fa] ∧ Rel X.K H2 ι2 σ e' S1 ∧ Post H ι σ e H2 ι2 σ e' ∧ RR X.K H2 ι2 σ e' v r0 ∧
        H2 fa = some (LmO fa (lmF (Wld.tq kk) params scope (cloFrom X.env.cells scope.names []) c) b) ∧ H2 c = some (CodeO c (Wld.tq kk))) I ?_) fun us s1 ⟨vs, H2, I2, rv, q2⟩ => ⟨I2.kIn, ?_⟩) h1 hpl
      · refine ⟨ι, e, S, r0, e', S1, R, h0, fun v H1 ι1 R1 P1 rr1 _ => ⟨ι1, e', S1, R1, hS, fun fa c H2 R2 P2 _ g1 g2 => ⟨v, fa, c, ι1, rfl, R2, P1.trans P2, rr1.post P2, g1, g2⟩⟩⟩
      obtain ⟨v, fa, c', ι2, rfl, R2, P2, rr, g1, g2⟩ := q2
      -- the captured cells
      obtain ⟨cl, hcl⟩ : ∃ cl, cl = cloFrom X.env.cells scope.names [] := ⟨_, rfl⟩
      have C := Caps.made (fr := fr) (js := js) I2.ok hfree hfr hjs
      rw [← hcl] at C g1
      have sub : ∀ a, inCl cl a → ∃ y, X.env.cells.lookup y = some a := fun a ⟨y, e⟩ => ⟨y, C.sub y a e⟩
      have n0 : ∀ a, inCl cl a → H2 a = none := fun a z => let ⟨y, e⟩ := sub a z; I2.freeC y a e
      have x0 : ∀ a, inCl cl a → ∃ o w, s1.heap.get? a = some o ∧ o.data = .cell w := fun a z => let ⟨y, e⟩ := sub a z; let ⟨w, o, g, d⟩ := I2.cell y a e; ⟨o, w, g, d⟩
      obtain ⟨fc, hfc⟩ : ∃ fc : Hp, fc = fun b => (s1.heap.get? b).map fun o => exa b o := ⟨_, rfl⟩
      have fc1 : ∀ a, inCl cl a → ∃ o w, fc a = some (exa a o) ∧ s1.heap.get? a = some o ∧ o.data = .cell w := fun a z => by
        obtain ⟨o, w, g, d⟩ := x0 a z
        exact ⟨o, w, by rw [hfc]; show (s1.heap.get? a).map _ = _; rw [g]; rfl, g, d⟩
      have fc2 : ∀ a, inCl cl a → ∃ o, fc a = some (exa a o) ∧ s1.heap.get? a = some o := fun a z => let ⟨o, w, q1, q2, _⟩ := fc1 a z; ⟨o, q1, q2⟩
      have ge : ∀ a, inCl cl a → X.s_0.heap.objs.size ≤ a := fun a z => let ⟨y, e⟩ := sub a z; I2.ok.cab y a (hfn y) e
      have nb : ∀ a, inCl cl a → X.base.get? a = none := fun a z => by
        cases hbs : X.base.get? a with
        | none => rfl
        | some o => exact absurd (Nat.lt_of_lt_of_le (Heap.lt_size hbs) (Nat.le_trans I2.ok.bsz (ge a z))) (Nat.lt_irrefl _)
      have nf : ∀ a, inCl cl a → a ∉ frs X.stack := fun a z y => by
        rcases List.mem_cons.mp (I2.stkSub a y) with e | e
        · obtain ⟨y', e'⟩ := sub a z
          exact I2.cne y' a e' e
        · obtain ⟨_, o, ho, _⟩ := I2.ok.funs.mem e
          exact absurd (Nat.lt_of_lt_of_le (Heap.lt_size ho) (ge a z)) (Nat.lt_irrefl _)
      have e0 := Env0.add (f := fc) I2.env0 n0 fc2 nb nf
      have up : ∀ b u, H2 b = some u → pat (inCl cl) fc H2 b = some u := fun b u e => (pat_out fun z => by rw [n0 b z] at e; cases e).trans e
      have at_ := cells_of I2 C
      obtain ⟨ca, cb⟩ := capts_at hcs
      have ljs : js.length = fr.length := by have := congrArg List.length hjs; simpa using this
      have hlmr : LmR X.K (pat (inCl cl) fc H2) ι2 (.ref fa) id cs fun _ => True := by
        unfold LmR
        rw [hlm]
        refine ⟨fa, c', cl, rfl, up _ _ g1, up _ _ g2, trivial, fun y a e => ?_, at_.inj, by rw [ca, ljs], fun j y d ey ed => ?_⟩
        · obtain ⟨o, w, q1, q2, q3⟩ := fc1 a ⟨y, e⟩
          exact ⟨trivial, o, w, (pat_in ⟨y, e⟩).trans q1, q3⟩
        · have hj : j < js.length := by rw [← ca]; exact (List.getElem?_eq_some_iff.mp ed).1
          have hj2 := List.getElem?_eq_getElem hj
          have he := cb j _ d hj2 ed
          obtain ⟨w, hw, rd⟩ := R2.sl _ _ he
          obtain ⟨a, hla, hv⟩ := at_.has j y ey
          obtain ⟨u, ru, o, go, dd⟩ := hv w (by rw [List.getElem?_map, hj2]; simp [slotAt_of hw])
          refine ⟨a, o, u, w, hla, (pat_in ⟨y, hla⟩).trans ?_, dd, ru, RD.mono (stay_ext up) ⟨[], by simp⟩ _ _ rd⟩
          rw [hfc]; show (s1.heap.get? a).map _ = _; rw [go]; rfl
      obtain ⟨sa1, sa2, sa3⟩ := R2.arg rr hsa
      have rs := R2.s.ext up
      have hsp : spG X.K 2 f ([v, .ref fa] ++ []) (pat (inCl cl) fc H2) (fun w H3 => ∃ ι3, RelS X.K H3 ι3 S' ∧ PostC (pat (inCl cl) fc H2) ι2 H3 ι3 ∧ RRt X.K (pat (inCl cl) fc H2) H3 ι3 w rt) (fun _ _ _ => False) :=
        ⟨rfl, ι2, [sa, .lm id cs], S1, rt, S', rs, .cons (sa1.ext up) sa2 sa3 (.cons (s := .lm id cs) hlmr (fun _ _ z => z.elim) (fun z => z) .nil), h3, fun w H3 ι3 q1 q2 q3 => ⟨ι3, q1, q2, q3⟩⟩
      have rr' : Vals ([v, .ref fa] ++ []) (us ++ []) := by simpa using rv
      refine wpAny_call (codeAny_mono (ok.run X.A X.stack s1 (pat (inCl cl) fc H2) ⟨us, []⟩ _ _ _ _ hr hgd e0 (hb s1 us I2.kIn (by rw [← rr'.length]; exact ok.len _ _ _ _ hsp)) rr' hsp) fun z s' hz => ?_)
      match z, hz with
      | .error e, hz => exact hz.elim
      | .ok .next, hz => exact hz.elim
      | .ok .brk, hz => exact hz.elim
      | .ok .cont, hz => exact hz.elim
      | .ok (.ret u), hz =>
        obtain ⟨w, H', os, bare, un, hok, rvu, ι3, q1, q2, q3⟩ := hz
        have k3 : ∀ a, inCl cl a → H' a = fc a := fun a z => by
          obtain ⟨o, w, e1, e2, e3⟩ := fc1 a z
          have e4 : pat (inCl cl) fc H2 a = some (exa a o) := (pat_in z).trans e1
          rw [(q2.keep a _ e4 (rs.away e4 (exa_cell e3))).1, e1]
        have xs : ∀ a, inCl cl a → ∃ o v, H' a = some (exa a o) ∧ o.data = .cell v := fun a z => let ⟨o, w, e1, _, e3⟩ := fc1 a z; ⟨o, w, (k3 a z).trans e1, e3⟩
        have un2 := un_drop un n0 k3 fc2 hok
        have hok2 := hok_drop hok fun a z => let ⟨o, w, e1, _⟩ := xs a z; ⟨o, e1⟩
        have I3 := I2.call' os un2 hok2 bare (fun b hb => absurd hb (by simp))
        have exd : ∀ a C, ExcS H' a C → ExcS (pat (inCl cl) (fun _ => none) H') a C := fun a C e => excs_drop xs e
        have R3 := RelS.drop (ι0 := ι3) q1 q1 xs exd
        have dn : ∀ b u, H' b = some u → (∀ o v, o.data = .cell v → exa b o ≠ u) → pat (inCl cl) (fun _ => none) H' b = some u := fun b u e hu => (pat_out fun z => by
          obtain ⟨o, v, e1, e2⟩ := xs b z
          rw [e1] at e
          exact hu o v e2 (Option.some.inj e)).trans e
        have wk : Wk H' (pat (inCl cl) (fun _ => none) H') := ⟨fun b ys e => dn _ _ e fun _ _ _ z => (nomatch z), fun b o u e => dn _ _ e fun _ _ _ z => (nomatch z)⟩
        have out : ∀ b u, H2 b = some u → ¬ inCl cl b := fun b u e z => by rw [n0 b z] at e; cases e
        have P3 : PostC H2 ι2 (pat (inCl cl) (fun _ => none) H') ι3 := by
          have keep : ∀ b u, H2 b = some u → b ∉ ι2 → pat (inCl cl) (fun _ => none) H' b = some u ∧ b ∉ ι3 := fun b u e hb => let ⟨y1, y2⟩ := q2.keep b u (up _ _ e) hb; ⟨(pat_out (out b u e)).trans y1, y2⟩
          refine ⟨q2.pre, ⟨fun a ys e => ?_, fun a o u e => ?_, fun a C e => ?_, fun a y e => ?_, fun a u e l => (keep a u e (R2.s.away e l)).1⟩, fun b u e => ?_, keep⟩
          · exact (pat_out (out _ _ e)).trans (q2.stay.tup a ys (up _ _ e))
          · exact (pat_out (out _ _ e)).trans (q2.stay.frz a o u (up _ _ e))
          · exact exd a C (q2.stay.exc a C ((stay_ext up).exc a C e))
          · exact (pat_out (out _ _ e)).trans (q2.stay.cod a y (up _ _ e))
          · obtain ⟨u', e'⟩ := q2.dom b u (up _ _ e)
            exact ⟨u', (pat_out (out b u e)).trans e'⟩
        obtain ⟨R4, P4⟩ := R2.called R3 P3
        refine ⟨w, _, I3, rvu, q w _ ι3 R4 (P2.trans P4) ?_ ?_⟩
        · cases rt with
          | d y => exact RD.wk wk exd _ _ _ q3 q3
          | new o =>
            obtain ⟨a, rfl, ro, y1, y2⟩ := q3
            obtain ⟨u, hu, _⟩ := ro.there
            have na : ¬ inCl cl a := fun z => by
              obtain ⟨o', v', e1, e2⟩ := xs a z
              exact ro.nlm e1 (exa_cell e2)
            refine ⟨a, rfl, ?_, y1, R2.ne_none ((pat_out na).symm.trans y2)⟩
            refine RO.wk (H0 := H') (ι0 := ι3) wk exd (fun b q h => dn b _ h fun o' v' e' => (cell_ns e').2.2.1 _) (fun u h => (pat_out na).trans h) ro ro
        · cases rt with
          | d y => trivial
          | new o =>
            obtain ⟨a, rfl, ro, y1, y2⟩ := q3
            have na : ¬ inCl cl a := fun z => by
              obtain ⟨o', v', e1, e2⟩ := xs a z
              exact ro.nlm e1 (exa_cell e2)
            exact ⟨a, rfl, P2.back ((pat_out na).symm.trans y2)⟩
    · cases hm'
  · cases hm'
end
end G

set_option Elab.async false
set_option linter.all false
set_option maxRecDepth 1000000
set_option maxHeartbeats 4000000
/-! GLH: TAB.get(k, x); the calculus of what lambdas brought. -/
namespace G
variable [Wld]
open PySem PySem.Spec PyProof.Rows L2
def gGetT (tb : List (Str × D)) (y : R) (z : D) : M R := match y with
  | .d (.str t) => pur (.d ((tb.lookup t).getD z))
  | _ => stk
def mGetT (tb : List (Str × D)) (mk mz : M R) : M R := bnd mk fun y => bnd mz fun z => bnd (unD z) fun z => gGetT tb y z
section
variable {X : Cx} {d : Addr} {tb : List (Str × D)} {x : Str} {k f : Expr} {mk mz : M R} {p apos cpos : Pos}
end
/-! ### calculus -/
section
variable {e : En} {S : Sto} {Q : R → En → Sto → Prop}
end
end G

set_option Elab.async false
set_option linter.all false
set_option maxRecDepth 1000000
set_option maxHeartbeats 4000000
/-! GLI: xs[::-1] of a list. -/
namespace G
variable [Wld]
open PySem PySem.Spec PyProof.Rows L2
section
variable {X : Cx}
def gBackL (r : R) : M R := fun e S => match look r e S with
  | some (.lst ds) => some (.new (.lst ds.reverse), e, S)
  | _ => none
end
end G

set_option Elab.async false
set_option linter.all false
set_option maxRecDepth 1000000
set_option maxHeartbeats 4000000
/-! GLJ: [elt for a in xs if .. for b in ys if ..], ys told as a locked value, or a list of the store. -/
namespace G
variable [Wld]
open PySem PySem.Spec PyProof.Rows L2
abbrev Wch := List (R × List D)
def itemsD (x : D) (S : Sto) : Option (List D × Wch) := match x with
  | .tup ds => some (ds, [])
  | .lst ds => some (ds, [])
  | .ref n => (match S[n]? with
    | some (.lst ds) => some (ds, [(.d (.ref n), ds)])
    | _ => none)
  | _ => none
def FeedsS (K : PySem.W.Frag) (p : List D × Wch) (J : It) (H1 : Hp) (ι1 : List Addr) : Prop :=
  ∀ i H ι σ e S, Stay H1 H → (∃ l, ι = ι1 ++ l) → Rel K H ι σ e S → Wat p.2 e S → (∀ d, p.1[i]? = some d → J.go i H ∧ ∀ x H', J.yld i H x H' → H' = H ∧ RD K H ι x d) ∧ (p.1.length ≤ i → J.stop i H)
def tGD (K : PySem.W.Frag) (m : M R) : TI := fun σ H Rr => ∃ ι e S x p e' S', Rel K H ι σ e S ∧ m e S = some (.d x, e', S') ∧ itemsD x S' = some p ∧
  ∀ J H' ι', Rel K H' ι' σ e' S' → Post H ι σ e H' ι' σ e' → FeedsS K p J H' ι' → Rr J H'
theorem Post.unwipe {H1 H : Hp} {ι1 ι : List Addr} {σ1 σ : SV} {e1 e : En} {vs : List Nat} (P : Post H1 ι1 σ1 e1 H ι (L2.wipe σ vs) e) (hw : ∀ i ∈ vs, ∀ s, e[i]? ≠ some (some s)) : Post H1 ι1 σ1 e1 H ι σ e := by
  refine ⟨P.pre, P.stay, P.dom, fun b x g1 g2 g3 => ?_⟩
  obtain ⟨z1, z2, z3, z4⟩ := P.keep b x g1 g2 g3
  have fwd : ∀ {i : Nat} {s : Sl} {v : V}, e[i]? = some (some s) → σ[i]? = some (some v) → (L2.wipe σ vs)[i]? = some (some v) := fun {i s v} h h' => by
    rw [wipe_at, if_neg (fun z => hw i z.1 s h)]; exact h'
  refine ⟨z1, z2, ?_, fun h => ?_⟩
  · rintro ⟨i, o, h5, h6⟩
    exact z3 ⟨i, o, h5, fwd h5 h6⟩
  · rintro ⟨i, s, h5, h7, h6⟩
    exact z4 h ⟨i, s, h5, h7, fwd h5 h6⟩
/-! ### two loops -/
noncomputable def compL2 (vs vs1 : List Nat) (t : Tgt) (c : M Bool) (m1 : M R) (t1 : Tgt) (c1 : M Bool) (elt : M R) (ws : List (R × List D)) : List D → Nat → M (List D)
  | [], _ => fun e S => if wat ws e S then some ([], e, S) else none
  | d :: ds, n => fun e S => if wat ws e S then (match t d e with
    | some e1 => match c e1 S with
      | some (true, e2, S2) => (match m1 e2 S2 with
        | some (.d x, e3, S3) => (match itemsD x S3 with
          | some (its, wc) => if n + its.length ≤ 1000000 then (match compL vs1 t1 c1 elt wc its (wipeE e3 vs1) S3 with
            | some (ys, e4, S4) => (match compL2 vs vs1 t c m1 t1 c1 elt ws ds (n + its.length) (wipeE e4 vs) S4 with
              | some (zs, e5, S5) => some (ys ++ zs, e5, S5)
              | none => none)
            | none => none) else none
          | none => none)
        | _ => none)
      | some (false, e2, S2) => compL2 vs vs1 t c m1 t1 c1 elt ws ds n (wipeE e2 vs) S2
      | none => none
    | none => none) else none
noncomputable def mLc2 (vs vs1 : List Nat) (t : Tgt) (mi : M Src) (c : M Bool) (m1 : M R) (t1 : Tgt) (c1 : M Bool) (elt : M R) : M R := bnd mi fun src => bnd (fun e S => compL2 vs vs1 t c m1 t1 c1 elt src.ws src.items 0 (wipeE e vs) S) fun ys => pur (.new (.lst ys))
theorem compL2_env {vs vs1 : List Nat} {t t1 : Tgt} {c c1 : M Bool} {m1 elt : M R} {ws : List (R × List D)} : ∀ {ds : List D} {n : Nat} {e : En} {S : Sto} {z}, compL2 vs vs1 t c m1 t1 c1 elt ws ds n e S = some z → (∀ i ∈ vs, ∀ s, e[i]? ≠ some (some s)) → ∀ i ∈ vs, ∀ s, z.2.1[i]? ≠ some (some s)
  | [], n, e, S, z, h, hw => by
    unfold compL2 at h
    split at h
    · cases h; exact hw
    · cases h
  | d :: ds, n, e, S, z, h, hw => by
    unfold compL2 at h
    split at h
    case isFalse => cases h
    split at h
    case h_2 => cases h
    split at h
    · split at h
      · split at h
        · split at h
          · split at h
            · split at h
              · rename_i hh
                cases h
                exact fun i hi s => (compL2_env hh (fun i hi s => wipeE_none hi) i hi s)
              · cases h
            · cases h
          · cases h
        · cases h
      · cases h
    · exact compL2_env h fun i hi s => wipeE_none hi
    · cases h
section
variable {X : Cx} {elt tg iter tg1 iter1 : Expr} {ifs ifs1 : List Expr} {scope : Scope} {own : List (Str × Nat)} {vs1 : List Nat} {pos : Pos} {mi : M Src} {t t1 : Tgt} {mc mc1 : M Bool} {m1 me : M R}
end
/-! ### what they come to -/
section
variable {e : En} {S : Sto} {vs vs1 : List Nat} {t t1 : Tgt} {c c1 : M Bool} {m1 elt : M R} {ws : List (R × List D)}
end
end G

set_option Elab.async false
set_option linter.all false
set_option maxRecDepth 1000000
set_option maxHeartbeats 4000000
/-! GLK: instances of a class of the text: fields, methods, making; defs with keyword-only defaults; split, int of a text. -/
namespace G
variable [Wld]
open PySem PySem.Spec PyProof.Rows L2
def insOf (r : R) (S : Sto) (c : Nat) : Option (Nat × List Str × List D) := match r with
  | .d (.ref n) => match S[n]? with
    | some (.ins c' ns ds) => if c' = c then some (n, ns, ds) else none
    | _ => none
  | _ => none
theorem insOf_eq {r : R} {S : Sto} {c n : Nat} {ns : List Str} {ds : List D} (h : insOf r S c = some (n, ns, ds)) : r = .d (.ref n) ∧ S[n]? = some (.ins c ns ds) := by
  unfold insOf at h
  split at h
  · split at h
    · rename_i n' c' ns' ds' hS
      split at h
      · rename_i hc
        cases h
        subst hc
        exact ⟨rfl, hS⟩
      · cases h
    · cases h
  · cases h
section
variable {K : PySem.W.Frag} {H : Hp} {ι : List Addr} {σ : SV} {e : En} {S : Sto} {v : V} {r : R}
theorem Rel.insOf {c n : Nat} {ns : List Str} {ds : List D} (R : Rel K H ι σ e S) (hr : RR K H ι σ e v r) (h : G.insOf r S c = some (n, ns, ds)) :
    ∃ a dx xs, v = .ref a ∧ r = .d (.ref n) ∧ ι[n]? = some a ∧ S[n]? = some (.ins c ns ds) ∧ H a = some (.ins (Wld.cls c) dx (ns.zip xs)) ∧ ns.length = ds.length ∧ RDs K H ι xs ds := by
  obtain ⟨rfl, hS⟩ := insOf_eq h
  cases hr with
  | ref h1 =>
    obtain ⟨dx, xs, h2, h3, h4⟩ := R.st _ _ _ hS h1
    exact ⟨_, dx, xs, rfl, rfl, h1, hS, h2, h3, h4⟩
theorem lookup_rd {f : Str} {d : D} : ∀ {ns : List Str} {xs : List V} {ds : List D}, RDs K H ι xs ds → (ns.zip ds).lookup f = some d → ∃ v, (ns.zip xs).lookup f = some v ∧ RD K H ι v d
  | [], _, _, _, h => by simp at h
  | n :: ns, _, [], hx, h => by simp at h
  | n :: ns, _, d' :: ds, .cons h1 h2, h => by
    simp only [List.zip_cons_cons, List.lookup_cons] at h ⊢
    split at h
    · cases h
      exact ⟨_, rfl, h1⟩
    · exact lookup_rd h2 h
theorem lookup_non {f : Str} : ∀ {ns : List Str} {xs : List V}, f ∉ ns → (ns.zip xs).lookup f = none
  | [], _, _ => by simp
  | n :: ns, [], _ => by simp
  | n :: ns, x :: xs, h => by
    have h1 : (f == n) = false := by
      rw [beq_eq_false_iff_ne]
      exact fun z => h (z ▸ List.mem_cons_self)
    simp only [List.zip_cons_cons, List.lookup_cons, h1]
    exact lookup_non fun z => h (List.mem_cons_of_mem _ z)
theorem putF_new {f : Str} {y : V} : ∀ {ns : List Str} {xs : List V}, ns.length = xs.length → f ∉ ns → putF f y (ns.zip xs) = (ns ++ [f]).zip (xs ++ [y])
  | [], [], _, _ => rfl
  | n :: ns, x :: xs, hl, h => by
    have h1 : n ≠ f := fun z => h (z ▸ List.mem_cons_self)
    simp only [List.zip_cons_cons, List.cons_append]
    unfold putF
    rw [if_neg h1, putF_new (by simpa using hl) fun z => h (List.mem_cons_of_mem _ z)]
theorem RRs.app {vs ws : List V} {rs : List R} {dd : List D} (h : RRs K H ι σ e vs rs) (h2 : RDs K H ι ws dd) : RRs K H ι σ e (vs ++ ws) (rs ++ dd.map R.d) := by
  induction h with
  | nil =>
    show RRs K H ι σ e ws (dd.map R.d)
    induction dd generalizing ws with
    | nil => cases h2; exact .nil
    | cons d dd ih => cases h2 with | cons a b => exact .cons a (ih b)
  | cons h1 _ ih => exact .cons h1 ih
end
/-! ### fields -/
def mFld (c : Nat) (f : Str) (m : M R) : M R := bnd m fun r e S => match insOf r S c with
  | some (_, ns, ds) => ((ns.zip ds).lookup f).map fun d => (.d d, e, S)
  | none => none
def mSetF (c : Nat) (f : Str) (m mo : M R) : M Fl := bnd m fun r => bnd mo fun ro e S => match r with
  | .d d => match insOf ro S c with
    | some (n, ns, ds) => if f ∉ ns ∧ ns.length < 1000 then some (.nx, e, S.set n (.ins c (ns ++ [f]) (ds ++ [d]))) else none
    | none => none
  | _ => none
section
variable {X : Cx} {ex o value : Expr} {m mo : M R} {f : Str} {c : Nat} {pos pos' : Pos}
end
/-! ### methods -/
/-- a method of the class c, dd the defaults that fill up -/
structure GFM (P : Program) (w : World) (K : PySem.W.Frag) (mg : Str → Option Value) (base : Heap) (k : Nat) (c : Nat) (x : Str) (n : Nat) (dd : List D) (m : Fn) : Prop where
  ex : ∃ f fd ps ds dvs, FnG P w K mg base k f fd ps (spG K n m) ∧ Meth K (Wld.cls c) x f ∧ Binds K fd ps ds ∧ Vals dvs ds ∧ ∀ H ι, RDs K H ι dvs dd
theorem GFM.mono {P : Program} {w : World} {K : PySem.W.Frag} {mg : Str → Option Value} {base : Heap} {j k c n : Nat} {x : Str} {dd : List D} {m : Fn} (F : GFM P w K mg base j c x n dd m) (h : j ≤ k) : GFM P w K mg base k c x n dd m := by
  obtain ⟨f, fd, ps, ds, dvs, ok, hm, hb⟩ := F.ex
  exact ⟨⟨f, fd, ps, ds, dvs, ok.mono h, hm, hb⟩⟩
def mMeth (c : Nat) (x : Str) (n : Nat) (dd : List D) (f : Fn) (mo : M R) (ms : M (List R)) : M R := bnd mo fun r e S => match insOf r S c with
  | some (_, ns, _) => if x ∈ ns then none else mCall n f (bnd ms fun rs => pur (r :: (rs ++ dd.map R.d))) e S
  | none => none
section
variable {X : Cx} {k : Nat} {f : Addr} {fd : FuncData} {ps : List Str} {sp : Sp} {dvs : List V} {ds : List Value} {E : XK} {o e : Expr} {es : List Expr} {ta : TE} {t : TA} {pos apos p : Pos} {C : Addr} {m x : Str}
end
section
variable {X : Cx} {k n c : Nat} {f : Fn} {x : Str} {dd : List D} {o ex : Expr} {es : List Expr} {mo : M R} {ms : M (List R)} {pos apos : Pos}
end
end G

set_option Elab.async false
set_option linter.all false
set_option maxRecDepth 1000000
set_option maxHeartbeats 4000000
/-! GLL: an instance made; defs with keyword-only defaults; split, int of a text. -/
namespace G
variable [Wld]
open PySem PySem.Spec PyProof.Rows L2
section
variable {X : Cx} {k : Nat} {f C : Addr} {fd : FuncData} {ps : List Str} {sp : Sp} {dvs : List V} {ds : List Value} {E : XK} {x : Str} {p pos : Pos} {e : Expr} {es : List Expr} {t : TA}
end
/-- a class of the text with an __init__ -/
structure GMk (P : Program) (w : World) (K : PySem.W.Frag) (mg : Str → Option Value) (base : Heap) (k : Nat) (c : Nat) (x : Str) (n : Nat) (m : Fn) : Prop where
  ex : ∃ f fd ps, FnG P w K mg base k f fd ps (spG K n m) ∧ Mk K (Wld.cls c) f ∧ mg x = some (.ref (Wld.cls c)) ∧ Binds K fd ps []
theorem GMk.mono {P : Program} {w : World} {K : PySem.W.Frag} {mg : Str → Option Value} {base : Heap} {j k c n : Nat} {x : Str} {m : Fn} (F : GMk P w K mg base j c x n m) (h : j ≤ k) : GMk P w K mg base k c x n m := by
  obtain ⟨f, fd, ps, ok, hm⟩ := F.ex
  exact ⟨⟨f, fd, ps, ok.mono h, hm⟩⟩
def mMake (c n : Nat) (f : Fn) (ms : M (List R)) : M R := bnd ms fun rs e S => if rs.length + 1 = n then match toArgs rs e with
    | some sls => match f (.d (.ref S.length) :: sls) (S ++ [.ins c [] []]) with
      | some (.d .non, S') => some (.d (.ref S.length), e, S')
      | _ => none
    | none => none
  else none
section
variable {X : Cx} {k n c : Nat} {f : Fn} {x : Str} {ex : Expr} {es : List Expr} {ms : M (List R)} {p pos : Pos}
end
/-! ### defs with keyword-only defaults -/
structure GFD (P : Program) (w : World) (K : PySem.W.Frag) (mg : Str → Option Value) (base : Heap) (k : Nat) (x : Str) (n : Nat) (dd : List D) (m : Fn) : Prop where
  ex : ∃ f fd ps ds dvs, FnG P w K mg base k f fd ps (spG K n m) ∧ mg x = some (.ref f) ∧ PySem.W.keepIn K (.ref f) = true ∧ Binds K fd ps ds ∧ Vals dvs ds ∧ ∀ H ι, RDs K H ι dvs dd
theorem GFD.mono {P : Program} {w : World} {K : PySem.W.Frag} {mg : Str → Option Value} {base : Heap} {j k n : Nat} {x : Str} {dd : List D} {m : Fn} (F : GFD P w K mg base j x n dd m) (h : j ≤ k) : GFD P w K mg base k x n dd m := by
  obtain ⟨f, fd, ps, ds, dvs, ok, hm⟩ := F.ex
  exact ⟨⟨f, fd, ps, ds, dvs, ok.mono h, hm⟩⟩
/-- n values, then keywords named ks -/
structure GFK (P : Program) (w : World) (K : PySem.W.Frag) (mg : Str → Option Value) (base : Heap) (k : Nat) (x : Str) (n : Nat) (ks : List Str) (m : Fn) : Prop where
  ex : ∃ f fd ps g gV, FnG P w K mg base k f fd ps (spG K (n + ks.length) m) ∧ mg x = some (.ref f) ∧ PySem.W.keepIn K (.ref f) = true ∧ KBn K fd ps n ks g gV ∧ ∀ vs zs, gV vs zs = vs ++ zs
theorem GFK.mono {P : Program} {w : World} {K : PySem.W.Frag} {mg : Str → Option Value} {base : Heap} {j k n : Nat} {x : Str} {ks : List Str} {m : Fn} (F : GFK P w K mg base j x n ks m) (h : j ≤ k) : GFK P w K mg base k x n ks m := by
  obtain ⟨f, fd, ps, g, gV, ok, hm⟩ := F.ex
  exact ⟨⟨f, fd, ps, g, gV, ok.mono h, hm⟩⟩
def mCallD (n : Nat) (dd : List D) (f : Fn) (ms : M (List R)) : M R := mCall n f (bnd ms fun rs => pur (rs ++ dd.map R.d))
def mCallK (n : Nat) (f : Fn) (ms mk : M (List R)) : M R := mCall n f (bnd ms fun rs => bnd mk fun zs => pur (rs ++ zs))
section
variable {X : Cx} {k n : Nat} {f : Fn} {x : Str} {dd : List D} {ks : List Str} {ex : Expr} {es : List Expr} {kws : List Keyword} {ms mk : M (List R)} {p pos : Pos}
abbrev GK (X : Cx) (kws : List Keyword) (m : M (List R)) : Prop := PK X kws (tGA X.K m)
theorem PK.imp {kws : List Keyword} {t t' : TA} (h : PK X kws t) (w : ∀ σ H Q, t' σ H Q → t σ H Q) : PK X kws t' := ⟨fun pos pins s σ H Q I q => h.run pos pins s σ H Q I (w σ H Q q)⟩
end
/-! ### texts -/
section
variable {X : Cx}
def gSplit (r : R) (rs : List R) : M R := fun e S => match r, rs with
  | .d (.str a), [.d (.str b)] => if (b.length == 0) = false ∧ a.length + 2 ≤ 1000000 then some (.new (.lst ((Txt.split a b).map .str)), e, S) else none
  | _, _ => none
theorem rds_strs {K : PySem.W.Frag} {H : Hp} {ι : List Addr} : ∀ ys : List Str, RDs K H ι (ys.map V.str) (ys.map D.str)
  | [] => .nil
  | y :: ys => .cons (.str y) (rds_strs ys)
def gIntS (r : R) : M R := fun e S => match r with
  | .d (.str x) => if x.length ≤ 640 then (PySem.intText? x).map fun n => (.d (.int n), e, S) else none
  | _ => none
end
end G

set_option Elab.async false
set_option linter.all false
set_option maxRecDepth 1000000
set_option maxHeartbeats 4000000
/-! GLM: methods and defs with defaults by their bodies; the calculus of classes. -/
namespace G
variable [Wld]
open PySem PySem.Spec PyProof.Rows L2
/-- the j-th statement of a class's body -/
def clsB (s : Stmt) (j : Nat) : Stmt := match s with
  | .ClassDef _ _ _ b _ _ _ _ _ _ _ => b.getD j (.Pass ⟨0, 0, 0, 0⟩)
  | _ => .Pass ⟨0, 0, 0, 0⟩
structure DM (K : PySem.W.Frag) (c : Nat) (x qual : Str) (st : Stmt) (ps : List Str) (dd : List D) : Prop where
  ex : ∃ f fd ds dvs, Fun K x qual st f fd ∧ Meth K (Wld.cls c) x f ∧ Binds K fd ps ds ∧ Vals dvs ds ∧ ∀ H ι, RDs K H ι dvs dd
structure DI (K : PySem.W.Frag) (mg : Str → Option Value) (c : Nat) (x qual : Str) (st : Stmt) (ps : List Str) : Prop where
  ex : ∃ f fd, Fun K "__init__" qual st f fd ∧ Mk K (Wld.cls c) f ∧ mg x = some (.ref (Wld.cls c)) ∧ Binds K fd ps []
structure DD (K : PySem.W.Frag) (mg : Str → Option Value) (x qual : Str) (st : Stmt) (ps : List Str) (dd : List D) : Prop where
  ex : ∃ f fd ds dvs, Fun K x qual st f fd ∧ mg x = some (.ref f) ∧ Binds K fd ps ds ∧ Vals dvs ds ∧ ∀ H ι, RDs K H ι dvs dd
structure DK (K : PySem.W.Frag) (mg : Str → Option Value) (x qual : Str) (st : Stmt) (ps : List Str) (n : Nat) (ks : List Str) : Prop where
  ex : ∃ f fd g gV, Fun K x qual st f fd ∧ mg x = some (.ref f) ∧ KBn K fd ps n ks g gV ∧ (∀ vs zs, gV vs zs = vs ++ zs) ∧ n + ks.length = ps.length
section
variable {P : Program} {w : World} {K : PySem.W.Frag} {mg : Str → Option Value} {base : Heap} {x qual : Str} {st : Stmt} {N ps : List Str} {k c : Nat} {dd : List D}
theorem GFM.bodyOf {body : M Fl} (D : DM K c x qual st ps dd) (Sc : FnScope N ps (defScope st))
    (h : ∀ (f : Addr) (cdv : Value) (A : Around) (outer : List PySem.Env) (s : Shared) (H : Hp) (vs : List V) (Q : VK) (E : XK), Room k (A.deeper (envOfC qual (defScope st) s.heap.objs.size f cdv)) → (A.deeper (envOfC qual (defScope st) s.heap.objs.size f cdv)).guards = some [] →
      GSs (cxOf CX0 P w K mg base N qual (defScope st) f cdv A outer s H E).nox (defBody st) body) :
    GFM P w K mg base (k + 1) c x ps.length dd (runF (N.length - ps.length) body) := by
  obtain ⟨f, fd, ds, dvs, F, hm, hb, hv, hd⟩ := D.ex
  exact ⟨⟨f, fd, ps, ds, dvs, fn_ok F Sc (h f), hm, hb, hv, hd⟩⟩
theorem GMk.bodyOf {body : M Fl} (D : DI K mg c x qual st ps) (Sc : FnScope N ps (defScope st))
    (h : ∀ (f : Addr) (cdv : Value) (A : Around) (outer : List PySem.Env) (s : Shared) (H : Hp) (vs : List V) (Q : VK) (E : XK), Room k (A.deeper (envOfC qual (defScope st) s.heap.objs.size f cdv)) → (A.deeper (envOfC qual (defScope st) s.heap.objs.size f cdv)).guards = some [] →
      GSs (cxOf CX0 P w K mg base N qual (defScope st) f cdv A outer s H E).nox (defBody st) body) :
    GMk P w K mg base (k + 1) c x ps.length (runF (N.length - ps.length) body) := by
  obtain ⟨f, fd, F, hm, hg, hb⟩ := D.ex
  exact ⟨⟨f, fd, ps, fn_ok F Sc (h f), hm, hg, hb⟩⟩
theorem GFD.bodyOf {body : M Fl} (D : DD K mg x qual st ps dd) (Sc : FnScope N ps (defScope st))
    (h : ∀ (f : Addr) (cdv : Value) (A : Around) (outer : List PySem.Env) (s : Shared) (H : Hp) (vs : List V) (Q : VK) (E : XK), Room k (A.deeper (envOfC qual (defScope st) s.heap.objs.size f cdv)) → (A.deeper (envOfC qual (defScope st) s.heap.objs.size f cdv)).guards = some [] →
      GSs (cxOf CX0 P w K mg base N qual (defScope st) f cdv A outer s H E).nox (defBody st) body) :
    GFD P w K mg base (k + 1) x ps.length dd (runF (N.length - ps.length) body) := by
  obtain ⟨f, fd, ds, dvs, F, hm, hb, hv, hd⟩ := D.ex
  exact ⟨⟨f, fd, ps, ds, dvs, fn_ok F Sc (h f), hm, F.kp, hb, hv, hd⟩⟩
theorem GFK.bodyOf {n : Nat} {ks : List Str} {body : M Fl} (D : DK K mg x qual st ps n ks) (Sc : FnScope N ps (defScope st))
    (h : ∀ (f : Addr) (cdv : Value) (A : Around) (outer : List PySem.Env) (s : Shared) (H : Hp) (vs : List V) (Q : VK) (E : XK), Room k (A.deeper (envOfC qual (defScope st) s.heap.objs.size f cdv)) → (A.deeper (envOfC qual (defScope st) s.heap.objs.size f cdv)).guards = some [] →
      GSs (cxOf CX0 P w K mg base N qual (defScope st) f cdv A outer s H E).nox (defBody st) body) :
    GFK P w K mg base (k + 1) x n ks (runF (N.length - ps.length) body) := by
  obtain ⟨f, fd, g, gV, F, hm, hb, hv, hd⟩ := D.ex
  exact ⟨⟨f, fd, ps, g, gV, by rw [hd]; exact fn_ok F Sc (h f), hm, F.kp, hb, hv⟩⟩
theorem GFM.recOf {body : Fn → M Fl} (D : DM K c x qual st ps dd) (Sc : FnScope N ps (defScope st))
    (h : ∀ (n : Nat) (self : Fn), GFM P w K mg base (k + n + 1) c x ps.length dd self → ∀ (f : Addr) (cdv : Value) (A : Around) (outer : List PySem.Env) (s : Shared) (H : Hp) (vs : List V) (Q : VK) (E : XK), Room (k + n + 1) (A.deeper (envOfC qual (defScope st) s.heap.objs.size f cdv)) → (A.deeper (envOfC qual (defScope st) s.heap.objs.size f cdv)).guards = some [] →
      GSs (cxOf CX0 P w K mg base N qual (defScope st) f cdv A outer s H E).nox (defBody st) (body self)) :
    ∀ n, GFM P w K mg base (k + n + 1) c x ps.length dd (recF (N.length - ps.length) body n) := by
  obtain ⟨f, fd, ds, dvs, F, hm, hb, hv, hd⟩ := D.ex
  intro n
  induction n with
  | zero => exact ⟨⟨f, fd, ps, ds, dvs, fn_ok (N := N) (body := stk) F Sc fun cdv A outer s H vs Q E hr hgd => gss_never, hm, hb, hv, hd⟩⟩
  | succ n ih => exact ⟨⟨f, fd, ps, ds, dvs, fn_ok F Sc (h n _ ih f), hm, hb, hv, hd⟩⟩
theorem GFM.recOfS (s : Nat) {body : Fn → M Fl} (D : DM K c x qual st ps dd) (Sc : FnScope N ps (defScope st))
    (h : ∀ (n : Nat) (self : Fn), GFM P w K mg base (k + (s + 1) * n + 1) c x ps.length dd self → ∀ (f : Addr) (cdv : Value) (A : Around) (outer : List PySem.Env) (sh : Shared) (H : Hp) (vs : List V) (Q : VK) (E : XK), Room (k + (s + 1) * n + s + 1) (A.deeper (envOfC qual (defScope st) sh.heap.objs.size f cdv)) → (A.deeper (envOfC qual (defScope st) sh.heap.objs.size f cdv)).guards = some [] →
      GSs (cxOf CX0 P w K mg base N qual (defScope st) f cdv A outer sh H E).nox (defBody st) (body self)) :
    ∀ n, GFM P w K mg base (k + (s + 1) * n + 1) c x ps.length dd (recF (N.length - ps.length) body n) := by
  obtain ⟨f, fd, ds, dvs, F, hm, hb, hv, hd⟩ := D.ex
  intro n
  induction n with
  | zero => exact ⟨⟨f, fd, ps, ds, dvs, fn_ok (N := N) (body := stk) F Sc fun cdv A outer s H vs Q E hr hgd => gss_never, hm, hb, hv, hd⟩⟩
  | succ n ih =>
    have := FnG.mono (fn_ok F Sc (h n _ ih f)) (show k + (s + 1) * n + s + 1 + 1 ≤ k + (s + 1) * (n + 1) + 1 by rw [Nat.mul_add]; omega)
    exact ⟨⟨f, fd, ps, ds, dvs, this, hm, hb, hv, hd⟩⟩
/-! ### facts -/
theorem DM.mk' {f : Addr} {fd : FuncData} (F : Fun K x qual st f fd) (h1 : PySem.W.findIn K (.ref (Wld.cls c)) x = some (some (.ref f))) (h2 : PySem.W.isFn K (.ref f) = true) (hb : Fun K x qual st f fd → Binds K fd ps []) : DM K c x qual st ps [] :=
  ⟨⟨f, fd, [], [], F, ⟨h1, h2, F.kp⟩, hb F, .nil, fun _ _ => .nil⟩⟩
theorem DI.mk' {f : Addr} {fd : FuncData} (F : Fun K "__init__" qual st f fd) (M : Mk K (Wld.cls c) f) (hm : mg x = some (.ref (Wld.cls c))) (hb : Fun K "__init__" qual st f fd → Binds K fd ps []) : DI K mg c x qual st ps := ⟨⟨f, fd, F, M, hm, hb F⟩⟩
theorem DD.mk' {f : Addr} {fd : FuncData} {y : Str} {i : Int} (n : Nat) (F : FunD K x qual (defArgs st) (defBody st) (defScope st) [] [(y, .int i)] f fd) (Fu : Fun K x qual st f fd) (hm : mg x = some (.ref f)) (hn : n + 1 = ps.length)
    (h : ∀ (D : Addr) (doc pm : Value) (an : Option Addr) (cdv ct : Value) (us ks : List Value), us.length = n → ks.length = 1 → KwChain D ([y].zip ks) (bindArgs (PySem.W.fnOf x qual (defArgs st) (defBody st) (defScope st) .none (.ref D) doc pm an cdv ct) ⟨us, []⟩) (ps.zip (us ++ ks))) : DD K mg x qual st ps [.int i] := by
  obtain ⟨ds, hv, hb⟩ := F.binds0 (ps := ps) n (by simp) (by simpa using hn) (fun D doc pm an cdv ct us ks h1 h2 => h D doc pm an cdv ct us ks h1 (by simpa using h2))
  exact ⟨⟨f, fd, ds, _, Fu, hm, hb, hv, fun _ _ => .cons (.int i) .nil⟩⟩
theorem DK.mk' {f : Addr} {fd : FuncData} {y : Str} {i : Int} (n : Nat) (F : FunD K x qual (defArgs st) (defBody st) (defScope st) [] [(y, .int i)] f fd) (Fu : Fun K x qual st f fd) (hm : mg x = some (.ref f)) (hn : n + 1 = ps.length)
    (h : ∀ (D : Addr) (doc pm : Value) (an : Option Addr) (cdv ct : Value) (us ws : List Value), us.length = n → ws.length = 1 → bindArgs (PySem.W.fnOf x qual (defArgs st) (defBody st) (defScope st) .none (.ref D) doc pm an cdv ct) ⟨us, [y].zip ws⟩ = pure (ps.zip (us ++ ws))) : DK K mg x qual st ps n [y] := by
  obtain ⟨mv, hb⟩ := F.kbinds0 (ps := ps) n [y] [] (fun us _ ws => us ++ ws) (by simp) (fun q hq => by cases hq) (fun h1 _ h3 => h1.append h3) (fun D doc pm an cdv ct us mv ws h1 _ h3 => h D doc pm an cdv ct us ws h1 (by simpa using h3))
  exact ⟨⟨f, fd, _, _, Fu, hm, hb, fun _ _ => rfl, by simpa using hn⟩⟩
end
/-! ### the calculus -/
section
variable {e : En} {S : Sto}
end
end G

set_option Elab.async false
set_option linter.all false
set_option maxRecDepth 1000000
set_option maxHeartbeats 4000000
/-! GLN: {e: e'} with a text as key; d.update(a new dict). -/
namespace G
variable [Wld]
open PySem PySem.Spec PyProof.Rows L2
def mD1S (mk m : M R) : M R := bnd mk fun k => bnd m fun r => match k, r with
  | .d (.str k), .d x => pur (.new (.dct [(.inr k, x)]))
  | _, _ => stk
/-- d.update(e) over the heap -/
def tUpdD (td ty : TE) : TE := fun σ H Q => td σ H fun x H1 => ∃ a, x = .ref a ∧ L2.IsD H1 a ∧ ty σ H1 fun y H2 => ∃ b kvs more, y = .ref b ∧ a ≠ b ∧ H2 a = some (.dK kvs) ∧ H2 b = some (.dK more) ∧ kvs.length + more.length ≤ sizeLine ∧ Q .non (upd H2 a (.dK (mergeK kvs more)))
def gUpd (rx ry : R) : M R := fun e S => match ry with
  | .new (.dct more) => (match look rx e S with
    | some (.dct kvs) => if isW rx = true ∧ kvs.length + more.length ≤ 1000000 then some (.d .non, putE rx (.dct (mergeD kvs more)) e, putS rx (.dct (mergeD kvs more)) S) else none
    | _ => none)
  | _ => none
def mUpd (mo ma : M R) : M R := bnd mo fun x => bnd (chkD x) fun _ => bnd ma fun y => gUpd x y
section
variable {X : Cx} {pos apos cpos : Pos} {td ty : TE} {o e : Expr} {mo ma mk m : M R}
end
open LamX in
omit [Wld] in
/-- as walk_GT, with the classes' places -/
theorem walk_GTC {l : PySem.W.OpenLaw} {n k : Nat} {q : Program} {loose : List Str} {XP : (Str → Option Value) → Heap → Prop} {YP : World → Heap → Prop} {d : DefRec} {K : Params → PySem.W.Frag} {x : Str} {ts : List Addr} (tq : Nat → Str) (lm : Nat → Lm) (cl : Nat → Addr)
    (hn : l.most = some n) (hn2 : n ≤ sizeLine) (hdf : d.params.defaults = []) (hr : Room k callerA) (hY : ∀ (w : World) (h : Heap), YP w h → (K w.params).In h) (hT : ∀ (w : World) (h : Heap), YP w h → ∀ P ∈ ts, h.get? P = some (PySem.W.tabObj #[])) (nd : ts.Nodup)
    (F : ∀ (w : World) (mg : Str → Option Value) (fa : Addr) (h : Heap) (i : Wld), w = i.w → (∀ (n : Nat) (P : Addr), ts[n]? = some P → P = i.tb n) → i.tq = tq → i.lm = lm → i.cls = cl → (K w.params).In h → h.Ns mainGlobals mg → mg d.name = some (.ref fa) →
      ∃ (cs : List Addr) (f : Fn) (fd : FuncData), (∀ P ∈ ts, (K w.params).lookup P = none) ∧ cs.length = ts.length ∧ (∀ (i : Nat) (c P : Addr), cs[i]? = some c → ts[i]? = some P → PySem.W.codeHdIn (K w.params) c P = true) ∧
        (∀ (s : Shared) (u : Value), BindsTo s fd ⟨[u], []⟩ [(x, u)]) ∧ (∀ base : Heap, (K w.params).In base → base.Ns mainGlobals mg → TBs base mg cs ts → FnG l.prog w (K w.params) mg base k fa fd [x] (spG (K w.params) 1 f)) ∧
        ∀ ns : List Int, ns.length ≤ n → (∀ z ∈ ns, Builtin.Int.intBits z ≤ 1048576) → ∃ S', f [.d (.lst (ns.map D.int))] ((List.range ts.length).map O.tab) = some (.d (.bl true), S')) :
    PySem.W.WalkO q loose XP YP l.row.toRowW d [] (fun f vs => PySem.call f vs) :=
  Att.attach_callB hn hdf fun w s₀ s₁ mg mb fa o pm cd doc a vs ns G Y ho hd hcd hmg hobj hints hlen hbits hg =>
    let i : Wld := ⟨w, fun n => ts.getD n 0, tq, lm, cl⟩
    have hw : ∀ (n : Nat) (P : Addr), ts[n]? = some P → P = i.tb n := fun n P h => by show P = ts.getD n 0; rw [List.getD_eq_getElem?_getD, h]; rfl
    let ⟨cs, _, fd, hn, hl, hc, hb, hF, hf⟩ := F w mg fa _ i rfl hw rfl rfl rfl (hY w _ Y) G.T.g hmg
    let ⟨_, h⟩ := hf ns hlen hbits
    law_callGT (hY w _ Y) G.T.g G.T.b G.T.builtins G.T.nolimit hg (hT w _ Y) hn hl nd (fun i c P h1 h2 => PySem.W.codeHd_of_K (hY w _ Y) (hc i c P h1 h2)) hw G.T.bmain hobj hints (Nat.le_trans hlen hn2) hr hF hb h
end G

set_option Elab.async false
set_option linter.all false
set_option maxRecDepth 1000000
set_option maxHeartbeats 4000000
/-! GLO: xs.extend(a tuple); comprehensions over what the store holds. -/
namespace G
variable [Wld]
open PySem PySem.Spec PyProof.Rows L2
section
variable {X : Cx}
def rExtendT (K : PySem.W.Frag) : V → List V → Hp → VK → Prop := fun x vs H Q => ∃ l b xs zs, x = .ref l ∧ vs = [.ref b] ∧ H l = some (.lst xs) ∧ SqT K H b zs ∧ xs.length + zs.length ≤ sizeLine ∧ Q .non (upd H l (.lst (xs ++ zs)))
def gExtendT (r : R) (rs : List R) : M R := match rs with
  | [.d (.tup zs)] => wrL r fun ds => if ds.length + zs.length ≤ 1000000 then some (.d .non, ds ++ zs) else none
  | _ => stk
end
/-- len of a dict -/
def gLenD (r : R) : M R := fun e S => match look r e S with
  | some (.dct kvs) => if notDic r = true then some (.d (.int (kvs.length : Nat)), e, S) else none
  | _ => none
end G

set_option Elab.async false
set_option linter.all false
set_option maxRecDepth 1000000
set_option maxHeartbeats 4000000
/-! GLP: for x in d.values(), d a dict of the store that is not locked: while the loop walks it stays as it is. -/
namespace G
variable [Wld]
open PySem PySem.Spec PyProof.Rows L2
abbrev kxO (o : PySem.Obj) (ws : List (Key × V)) : HO := .frz o (.frz o (.dK ws))
section
variable {X : Cx} {pins : List (Addr × PySem.Obj)} {σ : SV} {H : Hp} {s : Shared} {d : Addr} {o : PySem.Obj}
/-- back: the dict may change again -/
theorem Inv.unpin {ws : List (Key × V)} (I : Inv X pins σ H s) (h : H d = some (kxO o ws)) (h0 : ∀ q u, X.H_0 d ≠ some (.frz q u)) : Inv X pins σ (upd H d (.dK ws)) s := by
  obtain ⟨hd, hd2, ok⟩ := I.hok d _ h
  have nown : ∀ b y, H b = some (.own y) → b ≠ d := fun b y e z => by subst z; rw [h] at e; cases e
  have ntup : ∀ b y, H b = some (.tup y) → b ≠ d := fun b y e z => by subst z; rw [h] at e; cases e
  have ntbl : ∀ b y, H b = some (.tbl y) → b ≠ d := fun b y e z => by subst z; rw [h] at e; cases e
  have nnon : ∀ b, H b = none → b ≠ d := fun b e z => by subst z; rw [h] at e; cases e
  refine ⟨I.ok, I.os, I.bare, ⟨I.base.keep, I.base.slot, fun b q e n hx => ?_, I.base.there, fun b xs e => ?_, fun b q xs e => ?_, fun b ps e => ?_⟩, I.loc, I.cell, ?_, fun x c e => ?_, fun p hp => ?_, fun b q e => ?_, I.len⟩
  · have z := I.base.free b q e n hx
    rw [upd_ne (nnon b z)]; exact z
  · have z := I.base.tups b xs e
    rw [upd_ne (ntup b _ z)]; exact z
  · have z := I.base.frzs b q xs e
    rw [upd_ne (fun (y : b = d) => h0 q xs (y ▸ e))]; exact z
  · obtain ⟨m, z⟩ := I.base.tbls b ps e
    exact ⟨m, by rw [upd_ne (ntbl b _ z)]; exact z⟩
  · rw [upd_ne (nnon _ I.free)]; exact I.free
  · rw [upd_ne (nnon _ (I.freeC x c e))]; exact I.freeC x c e
  · obtain ⟨e, n, ne, nf, dd⟩ := I.pin p hp
    exact ⟨e, by rw [upd_ne (nnon _ n)]; exact n, ne, nf, dd⟩
  · by_cases hb : b = d
    · subst hb
      rw [upd_same] at e; cases e
      exact ok
    · rw [upd_ne hb] at e
      exact (I.hok b q e).stay (fun c v _ k => k) (fun c k => by rw [upd_ne (nown c b k)]; exact k) fun c xs k => by rw [upd_ne (ntup c xs k)]; exact k
/-- d.values(), d as it stands -/
def Itx (d : Addr) (o : PySem.Obj) (kvs : List (Key × V)) : It :=
  ⟨fun i H => H d = some (kxO o kvs) ∧ i < kvs.length, fun i H x H' => H' = H ∧ ∃ k, kvs[i]? = some (k, x), fun i H => H d = some (kxO o kvs) ∧ kvs.length ≤ i⟩
end
def iValsX (td : TE) : TI := fun σ H R => td σ H fun x H1 => ∃ d kvs, x = .ref d ∧ H1 d = some (.dK kvs) ∧ ∀ o, R (Itx d o kvs) (upd H1 d (kxO o kvs))
/-! ### as data -/
def srcVals (r : R) : M Src := fun e S => match r with
  | .d (.ref n) => match S[n]? with
    | some (.dct kvs) => if kvs.length ≤ 1000000 then some (⟨kvs.map (·.2), []⟩, e, S.set n (.kx kvs)) else none
    | _ => none
  | _ => none
theorem rk_get {K : PySem.W.Frag} {H : Hp} {ι : List Addr} : ∀ {ws : List (Key × V)} {kvs : List (Key × D)}, RK K H ι ws kvs → ∀ {i : Nat} {k : Key} {v : V}, ws[i]? = some (k, v) → ∃ d, kvs[i]? = some (k, d) ∧ RD K H ι v d
  | _, _, .nil, i, k, v, h => by simp at h
  | _, q :: _, .cons h1 h2, 0, k, v, h => by
    simp only [List.getElem?_cons_zero, Option.some.injEq] at h
    subst h
    exact ⟨q.2, by rw [List.getElem?_cons_zero]; rw [show k = q.1 from h1.1], h1.2⟩
  | _, _, .cons h1 h2, i + 1, k, v, h => by
    rw [List.getElem?_cons_succ] at h ⊢
    exact rk_get h2 h
end G

set_option Elab.async false
set_option linter.all false
set_option maxRecDepth 1000000
set_option maxHeartbeats 4000000
/-! GLQ: behind a loop over d.values() the dict may change again. -/
namespace G
variable [Wld]
open PySem PySem.Spec PyProof.Rows L2 LamX
/-- as Stay, but what is locked twice may be unlocked -/
structure Wu (H H' : Hp) : Prop where
  tup : ∀ a xs, H a = some (.tup xs) → H' a = some (.tup xs)
  frz : ∀ a o u, (∀ o' w, u ≠ .frz o' w) → H a = some (.frz o u) → H' a = some (.frz o u)
  exc : ∀ a C, ExcS H a C → ExcS H' a C
  cod : ∀ a q, H a = some (LamX.CodeO a q) → H' a = some (LamX.CodeO a q)
  lmu : ∀ a u, H a = some u → LmU a u → H' a = some u
section
variable {K : PySem.W.Frag} {H H' : Hp} {ι : List Addr}
theorem wu_of {a : Addr} {o : PySem.Obj} {ws : List (Key × V)} (h : H a = some (kxO o ws)) : Wu H (upd H a (.dK ws)) := by
  have ne : ∀ b u, H b = some u → (u ≠ kxO o ws) → upd H a (.dK ws) b = some u := fun b u e n => by
    rw [upd_ne (fun (z : b = a) => by subst z; rw [h] at e; exact n (Option.some.inj e).symm)]; exact e
  refine ⟨fun b xs e => ne b _ e (fun z => nomatch z), fun b o' u n e => ne b _ e fun z => ?_, fun b C e => ?_, fun b q e => ne b _ e (fun z => by unfold LamX.CodeO at z; cases z), fun b u e l => ne b _ e fun z => ?_⟩
  · cases z; exact n _ _ rfl
  · rcases e with e | ⟨dd, u, e, e2, e3⟩
    · exact .inl (ne b _ e fun z => nomatch z)
    · by_cases hd : dd = a
      · subst hd
        exact .inr ⟨dd, .dK ws, ne b _ e (fun z => nomatch z), upd_same, lmu_dK⟩
      · exact .inr ⟨dd, u, ne b _ e (fun z => nomatch z), by rw [upd_ne hd]; exact e2, e3⟩
  · subst z; exact lmu_of (u := kxO o ws) (fun _ z => nomatch z) l
theorem wu_t (s : Wu H H') {a : Addr} {xs : List V} (h : SqTn K H a xs) : SqTn K H' a xs := by
  rcases h with ⟨o, h, d⟩ | h
  · exact .inl ⟨o, s.frz _ _ _ (fun _ _ z => nomatch z) h, d⟩
  · exact .inr h
theorem wu_l (s : Wu H H') {a : Addr} {xs : List V} (h : LF K H a xs) : LF K H' a xs := by
  rcases h with ⟨o, h⟩ | h
  · exact .inl ⟨o, s.frz _ _ _ (fun _ _ z => nomatch z) h⟩
  · exact .inr h
mutual
theorem RD.wu (s : Wu H H') : ∀ (d : D) (v : V), RD K H ι v d → RD K H' ι v d
  | .non, _, h => by cases h; exact .non
  | .bl b, _, h => by cases h; exact .bl b
  | .int b, _, h => by cases h; exact .int b
  | .str b, _, h => by cases h; exact .str b
  | .tup ds, _, h => by cases h with | tup h1 h2 => exact .tup (wu_t s h1) (RDs.wu s ds _ h2)
  | .lst ds, _, h => by cases h with | lst h1 h2 => exact .lst (wu_l s h1) (RDs.wu s ds _ h2)
  | .dic ks ds, _, h => by cases h with | dic h1 h2 h3 => exact .dic (s.frz _ _ _ (fun _ _ z => nomatch z) h1) h2 (RDs.wu s ds _ h3)
  | .ref n, _, h => by cases h with | ref h1 => exact .ref h1
  | .fn a, _, h => by cases h; exact .fn a
  | .exc C ns ds, _, h => by cases h with | exc h1 h2 h3 h4 h5 h6 => exact .exc (s.frz _ _ _ (fun _ _ z => nomatch z) h1) h2 h3 (h4.mono fun _ _ _ => s.frz _ _ _ (fun _ _ z => nomatch z)) h5 (RDs.wu s ds _ h6)
theorem RDs.wu (s : Wu H H') : ∀ (ds : List D) (vs : List V), RDs K H ι vs ds → RDs K H' ι vs ds
  | [], _, h => by cases h; exact .nil
  | d :: ds, _, h => by cases h with | cons h1 h2 => exact .cons (RD.wu s d _ h1) (RDs.wu s ds _ h2)
end
theorem RK.wu (s : Wu H H') {ws : List (Key × V)} {kvs : List (Key × D)} (h : RK K H ι ws kvs) : RK K H' ι ws kvs :=
  Paired.mapP h fun _ _ z => ⟨z.1, RD.wu s _ _ z.2⟩
theorem RO.wu (s : Wu H H') {a : Addr} {o : O} (k : ∀ u, H a = some u → H' a = some u) (h : RO K H ι a o) : RO K H' ι a o := by
  cases o with
  | tab q =>
    obtain ⟨h0, ps, h1, h2, h3⟩ := h
    exact ⟨h0, ps, k _ h1, h2, fun pos cv hc => let ⟨c, e1, e2⟩ := h3 pos cv hc; ⟨c, e1, s.cod _ _ e2⟩⟩
  | ins c ns ds => obtain ⟨dx, xs, h1, h2, h3⟩ := h; exact ⟨dx, xs, k _ h1, h2, RDs.wu s _ _ h3⟩
  | lst ds => obtain ⟨xs, h1, h2⟩ := h; exact ⟨xs, k _ h1, RDs.wu s _ _ h2⟩
  | dct kvs => obtain ⟨ws, h1, h2⟩ := h; exact ⟨ws, k _ h1, h2.wu s⟩
  | kx kvs => obtain ⟨o, ws, h1, h2⟩ := h; exact ⟨o, ws, k _ h1, h2.wu s⟩
  | kd kvs =>
    obtain ⟨o, es, ep, xs, h⟩ := h
    exact ⟨o, es, ep, xs, k _ h.at_, h.ex, h.dt, h.en, h.nd, h.sz, h.sm, h.dp, h.md, Paired.mapP h.pr fun _ _ z => ⟨z.1, z.2.1.imp (fun ⟨t, y, r, d⟩ => ⟨t, y, r, RD.wu s _ _ d⟩) id, z.2.2.1, RD.wu s _ _ z.2.2.2⟩⟩
theorem LmR.wu {v : V} {i : Nat} {cs : List D} {Z : Addr → Prop} (s : Wu H H') (h : LmR K H ι v i cs Z) : LmR K H' ι v i cs Z := by
  obtain ⟨f, c, cl, rfl, h1, h2, h3, h4, h5, h6, h7⟩ := h
  refine ⟨f, c, cl, rfl, s.lmu f _ h1 (.inl ⟨_, _, rfl⟩), s.cod _ _ h2, h3, fun y a e => ?_, h5, h6, fun j y d e1 e2 => ?_⟩
  · obtain ⟨z, o, v, e1, e2⟩ := h4 y a e
    exact ⟨z, o, v, s.lmu a _ e1 (.inr ⟨o, v, rfl, e2⟩), e2⟩
  · obtain ⟨a, o, u, v, q1, q2, q3, q4, q5⟩ := h7 j y d e1 e2
    exact ⟨a, o, u, v, q1, s.lmu a _ q2 (.inr ⟨o, _, rfl, q3⟩), q3, q4, RD.wu s _ _ q5⟩
theorem RSl.wu {v : V} {sl : Sl} (s : Wu H H') (k : ∀ a u, v = .ref a → sl.isObj → H a = some u → H' a = some u) (h : RSl K H ι v sl) : RSl K H' ι v sl := by
  cases sl with
  | d x => exact RD.wu s _ _ h
  | own o => obtain ⟨a, rfl, ro⟩ := h; exact ⟨a, rfl, ro.wu s fun u hu => k a u rfl trivial hu⟩
  | brw o => obtain ⟨a, rfl, ro⟩ := h; exact ⟨a, rfl, ro.wu s fun u hu => k a u rfl trivial hu⟩
  | lm i cs => exact LmR.wu s h
theorem Rel.unpin {σ : SV} {e : En} {S : Sto} {a : Addr} {o : PySem.Obj} {ws : List (Key × V)} {kvs : List (Key × D)} {n : Nat} (R : Rel K H ι σ e S) (hn : S[n]? = some (.kx kvs)) (ha : ι[n]? = some a) (h : H a = some (kxO o ws)) (rk : RK K H ι ws kvs) :
    Rel K (upd H a (.dK ws)) ι σ e (S.set n (.dct kvs)) := by
  have st := wu_of h
  have hlt := (List.getElem?_eq_some_iff.mp hn).1
  have hι : a ∈ ι := List.mem_of_getElem? ha
  refine ⟨R.len, fun i s he => ?_, by rw [List.length_set]; exact R.ilen, fun m o' b h1 h2 => ?_, R.nd, R.own, R.brw⟩
  · obtain ⟨w, hw, hs⟩ := R.sl i s he
    refine ⟨w, hw, hs.wu st fun b x hb hob hx => ?_⟩
    subst hb
    have := R.slot_ne he hob hw
    rw [upd_ne (fun (z : b = a) => this (z ▸ hι))]
    exact hx
  · by_cases hm : m = n
    · subst hm
      rw [List.getElem?_set_self hlt] at h1
      cases h1
      rw [ha] at h2; cases h2
      exact ⟨ws, upd_same, rk.wu st⟩
    · rw [List.getElem?_set_ne (Ne.symm hm)] at h1
      refine (R.st m o' b h1 h2).wu st fun x hx => ?_
      rw [upd_ne (fun (z : b = a) => hm (nodup_at R.nd (z ▸ h2) ha))]
      exact hx
end
/-- the statement, in which the dict at sel is walked -/
def mUnpin (sel : M R) (mf : M Fl) : M Fl := fun e S => match sel e S with
  | some (.d (.ref n), _, _) => match S[n]? with
    | some (.dct _) => match mf e S with
      | some (.nx, e', S') => match S'[n]? with
        | some (.kx kvs) => some (.nx, e', S'.set n (.dct kvs))
        | _ => none
      | _ => none
    | _ => none
  | _ => none
noncomputable def mForV (t : Tgt) (m : M R) (body : M Fl) : M Fl := mUnpin m (mFor t (bnd m srcVals) body)
end G

set_option Elab.async false
set_option linter.all false
set_option maxRecDepth 1000000
set_option maxHeartbeats 4000000
/-! GLR: zip of three, lists and tuples in any mix. -/
namespace G
variable [Wld]
open PySem PySem.Spec PyProof PyProof.Rows L2
def ItzX3 (k1 k2 k3 : Bool) (K : PySem.W.Frag) (a b c : Addr) : It :=
  ⟨fun i H => ∃ (xs ys us : List V) (x y u : V), SqX k1 K H a xs ∧ SqX k2 K H b ys ∧ SqX k3 K H c us ∧ xs[i]? = some x ∧ ys[i]? = some y ∧ us[i]? = some u,
    fun i H v H' => ∃ T x y u, v = .ref T ∧ H T = none ∧ H' = upd H T (.tup [x, y, u]) ∧ (∀ xs, SqX k1 K H a xs → xs[i]? = some x) ∧ (∀ ys, SqX k2 K H b ys → ys[i]? = some y) ∧ ∀ us, SqX k3 K H c us → us[i]? = some u,
    fun i H => ∃ xs ys us : List V, SqX k1 K H a xs ∧ SqX k2 K H b ys ∧ SqX k3 K H c us ∧ (xs.length ≤ i ∨ ys.length ≤ i ∨ us.length ≤ i)⟩
def iZipX3 (K : PySem.W.Frag) (ta : TA) : TI := fun σ H R => ta σ H fun vs H1 => ∃ a b c xs ys us k1 k2 k3, vs = [.ref a, .ref b, .ref c] ∧ SqX k1 K H1 a xs ∧ SqX k2 K H1 b ys ∧ SqX k3 K H1 c us ∧ R (ItzX3 k1 k2 k3 K a b c) H1
def zipD3 : List D → List D → List D → List D
  | x :: xs, y :: ys, u :: us => .tup [x, y, u] :: zipD3 xs ys us
  | _, _, _ => []
theorem zip3_len : ∀ (xs ys us : List D), (zipD3 xs ys us).length = min (min xs.length ys.length) us.length
  | [], _, _ => by simp [zipD3]
  | _ :: _, [], _ => by simp [zipD3]
  | _ :: _, _ :: _, [] => by simp [zipD3]
  | x :: xs, y :: ys, u :: us => by
    simp only [zipD3, List.length_cons, zip3_len xs ys us]
    omega
theorem zip3_get : ∀ {xs ys us : List D} {i : Nat} {d : D}, (zipD3 xs ys us)[i]? = some d → ∃ x y u, xs[i]? = some x ∧ ys[i]? = some y ∧ us[i]? = some u ∧ d = .tup [x, y, u]
  | [], _, _, i, d, h => by simp [zipD3] at h
  | _ :: _, [], _, i, d, h => by simp [zipD3] at h
  | _ :: _, _ :: _, [], i, d, h => by simp [zipD3] at h
  | x :: xs, y :: ys, u :: us, 0, d, h => by
    simp only [zipD3, List.getElem?_cons_zero, Option.some.injEq] at h
    exact ⟨x, y, u, rfl, rfl, rfl, h.symm⟩
  | x :: xs, y :: ys, u :: us, i + 1, d, h => by
    simp only [zipD3, List.getElem?_cons_succ] at h ⊢
    exact zip3_get h
/-- zip of three of any kind -/
def srcZipX3 (rs : List R) : M Src := fun e S => match rs with
  | [r1, r2, r3] => (match srcOf r1 e S, srcOf r2 e S, srcOf r3 e S with
    | some (s1, _, _), some (s2, _, _), some (s3, _, _) => some (⟨zipD3 s1.items s2.items s3.items, s1.ws ++ (s2.ws ++ s3.ws)⟩, e, S)
    | _, _, _ => none)
  | _ => none
section
variable {X : Cx} {a b c : Expr} {ms : M (List R)} {p pos : Pos}
end
end G

set_option Elab.async false
set_option linter.all false
set_option maxRecDepth 1000000
set_option maxHeartbeats 4000000
/-! GLS: sorted(d), d's keys all ints or all texts. -/
namespace G
variable [Wld]
open PySem PySem.Spec PyProof PyProof.Rows L2
def leI (a b : Int) : Bool := decide (a ≤ b)
def srtI (ks : List Int) : List Int := ks.mergeSort leI
def keysI : List (Key × D) → Option (List Int)
  | [] => some []
  | (.inl x, _) :: r => (keysI r).map (x :: ·)
  | (.inr _, _) :: _ => none
theorem RK.keysI {K : PySem.W.Frag} {H : Hp} {ι : List Addr} : ∀ {ws : List (Key × V)} {kvs : List (Key × D)} {ks : List Int}, RK K H ι ws kvs → G.keysI kvs = some ks → ws.map (·.1) = ks.map Sum.inl
  | _, _, _, .nil, e => by cases e; rfl
  | _, (k, d) :: kvs, ks, .cons h1 h2, e => by
    cases k with
    | inr i => cases e
    | inl x =>
      obtain ⟨cs, e1, e2⟩ := Option.map_eq_some_iff.mp (show (G.keysI kvs).map (x :: ·) = some ks from e)
      subst e2
      rw [List.map_cons, List.map_cons, RK.keysI h2 e1, h1.1]
theorem RDs.ints {K : PySem.W.Frag} {H : Hp} {ι : List Addr} : ∀ ks : List Int, RDs K H ι (ks.map V.int) (ks.map D.int)
  | [] => .nil
  | k :: ks => .cons (.int k) (RDs.ints ks)
def gSortKI (r : R) : M R := fun e S => match look r e S with
  | some (.dct kvs) => (G.keysI kvs).bind fun ks => if ks.length < 64 then some (.new (.lst ((srtI ks).map D.int)), e, S) else none
  | _ => none
variable {X : Cx}
/-- ints or texts -/
def gSortKD (r : R) : M R := fun e S => match gSortKI r e S with
  | some z => some z
  | none => gSortedK r e S
variable {e : En} {S : Sto} {Q : R → En → Sto → Prop}
end G

set_option Elab.async false
set_option linter.all false
set_option maxRecDepth 1000000
set_option maxHeartbeats 4000000
/-! GTD: dict(t) of a tuple of pairs. -/
namespace G
variable [Wld]
open PySem PySem.Spec PyProof.Rows L2
section
variable {X : Cx}
theorem Inv.tupleN {pins : List (Addr × PySem.Obj)} {σ : SV} {H : Hp} {s : Shared} {a : Addr} {xs : List V} (I : Inv X pins σ H s) (h : SqTn X.K H a xs) : ∃ its : List Value, Vals xs its ∧ PlainSeq "tuple" s.heap a its.toArray ∧ xs.length ≤ sizeLine := by
  rcases h with ⟨o, h, hd⟩ | ⟨o, its, n, hk, hc, hd, hs, hz, r⟩
  · obtain ⟨e, z, its, r, o', e', hc, n, hs⟩ := I.hok a _ h
    rw [e] at e'
    cases e'
    exact ⟨its, r, ⟨o, n, e, hc, hd, hs⟩, z⟩
  · refine ⟨its.toList, r, ⟨o, n, I.kIn a o hk, hc, hd, by simpa using hs⟩, ?_⟩
    have e := r.length
    simp only [Array.length_toList] at e
    omega
theorem call_dictT (hcalm : X.calm = true) : CallR X (.type "dict") (fun xs H Q => ∃ (a : Addr) (ps : List Addr) (kvs : List (Key × V)), xs = [.ref a] ∧ SqTn X.K H a (ps.map V.ref) ∧ Paired (fun p kv => SqT X.K H p [kV kv.1, kv.2]) ps kvs ∧
    ∀ p, H p = none → Q (.ref p) (upd H p (.dK (mergeK [] kvs)))) := by
  intro pins s σ H xs us Q I r q
  obtain ⟨a, ps, kvs, ex, hq, hp, q⟩ := q
  subst ex
  obtain ⟨u, eu, rx⟩ := vals1 r
  subst eu
  cases rx
  obtain ⟨its, rv, pl, hz⟩ := Inv.tupleN I hq
  have ei := refs_at rv
  subst ei
  rw [List.length_map] at hz
  obtain ⟨prs, rel, hl, hpr⟩ := pairs_of I hp
  -- the pairs, as the object reads them
  have hus : ∃ uv : List (Value × Value), uv.length = prs.length ∧ ∀ (j : Nat) (q : Key × Value), prs[j]? = some q → ∃ (b : Addr) (u : Value), uv[j]? = some (u, q.2) ∧ ps[j]? = some b ∧ s.heap.IsTuple b #[u, q.2] ∧ keyIs q.1 u = true := by
    clear rel hp q
    clear hq rv pl r hz
    induction prs generalizing ps with
    | nil => exact ⟨[], rfl, fun j q e => by simp at e⟩
    | cons p prs ih =>
      cases ps with
      | nil => simp at hl
      | cons b ps =>
        obtain ⟨uv, h1, h2⟩ := ih ps (by simpa using hl) (fun j q e => by
          obtain ⟨b', u, e1, e2, e3⟩ := hpr (j + 1) q (by simpa using e)
          exact ⟨b', u, by simpa using e1, e2, e3⟩)
        obtain ⟨b', u, e1, e2, e3⟩ := hpr 0 p rfl
        refine ⟨(u, p.2) :: uv, by simp [h1], fun j q e => ?_⟩
        cases j with
        | zero =>
          cases (Option.some.inj e : p = q)
          exact ⟨b', u, rfl, e1, e2, e3⟩
        | succ j =>
          obtain ⟨b2, u2, z1, z2, z3, z4⟩ := h2 j q (by simpa using e)
          exact ⟨b2, u2, by simpa using z1, by simpa using z2, z3, z4⟩
  obtain ⟨uv, hul, hu⟩ := hus
  let Ts : Nat → Addr := fun j => (ps[j]?).getD 0
  have P := PairArg.tuple (prog := X.prog) (w := X.w) a (ps.map Value.ref).toArray Ts uv
  have getp : ∀ {j : Nat} {k v : Value}, uv[j]? = some (k, v) → ∃ kk, prs[j]? = some (kk, v) ∧ keyIs kk k = true ∧ ps[j]? = some (Ts j) ∧ s.heap.IsTuple (Ts j) #[k, v] := fun {j k v} e => by
    have hj : j < prs.length := by rw [← hul]; exact (List.getElem?_eq_some_iff.mp e).1
    obtain ⟨b, u, z1, z2, z3, z4⟩ := hu j prs[j] (List.getElem?_eq_getElem hj)
    rw [e] at z1
    have hT : Ts j = b := by show (ps[j]?).getD 0 = b; rw [z2]; rfl
    have e1 : k = u := by cases z1; rfl
    have e2 : v = prs[j].2 := by cases z1; rfl
    refine ⟨prs[j].1, by rw [List.getElem?_eq_getElem hj, e2], by rw [e1]; exact z4, by rw [hT]; exact z2, by rw [hT, e1, e2]; exact z3⟩
  have ok : PlainSeq "tuple" s.heap a (ps.map Value.ref).toArray ∧ PairItems s.heap (ps.map Value.ref).toArray Ts uv := ⟨pl, by simp [hul, hl], fun j k v e => by
    obtain ⟨kk, _, _, h3, h4⟩ := getp e
    exact ⟨by simp [h3], .inl h4⟩⟩
  have hc : PairsHave (mixKind X.prog X.w) uv.length (PairRel uv) prs := ⟨hul.symm, fun i key v e => by
    obtain ⟨kk, h1, h2, _⟩ := getp e
    exact ⟨kk, h1, h2⟩⟩
  refine PySem.call_dict_pairs (knd := mixKind X.prog X.w) P (I.ok.hd hcalm) ok hc (by rw [hul, hl]; exact hz) fun h' tk hd' k => ?_
  have k : ∀ b o, s.heap.get? b = some o → h'.get? b = some o := fun b o e => k b o (by simp) e
  have hm : (s.heap.objs.size == sysModules) = false := beq_eq_false_iff_ne.mpr (Nat.ne_of_gt I.big)
  have hlen : (mergeK [] kvs).length ≤ sizeLine := by
    refine Nat.le_trans (length_mergeK kvs []) ?_
    rw [List.length_nil, Nat.zero_add, rel.length, hl]
    exact hz
  exact ⟨.ref s.heap.objs.size, upd H s.heap.objs.size (.dK (mergeK [] kvs)), I.laid (t' := tk) k (Nat.le_refl _) (show ObjOk X.prog X.w _ _ _ (.dK (mergeK [] kvs)) from ⟨hlen, hm, merged [] prs, KV.merge rel .nil, hd'⟩), rfl, q _ (I.hok.fresh (Nat.le_refl _))⟩
def gDictT (r : R) : M R := fun e S => match r with
  | .d (.tup ds) => (prsOf ds).map fun kvs => (.new (.dct (mergeD [] kvs)), e, S)
  | _ => none
theorem cg_dictT (hc : X.calm = true) : CallR X (.type "dict") (tOA X.K (g1 gDictT)) := g1_of (call_dictT hc) fun ι σ e S v rx r' e' S' H Q R hr hm q => by
  unfold gDictT at hm
  split at hm
  · rename_i ds
    obtain ⟨kvs, hb, hz⟩ := Option.map_eq_some_iff.mp hm
    cases hz
    cases hr with
    | tup h1 h2 =>
      obtain ⟨ps, ws, rfl, hp, hk⟩ := h2.prs hb
      refine ⟨_, ps, ws, rfl, h1, hp, fun l hl => ?_⟩
      obtain ⟨R4, P4, n1, n2⟩ := R.new (u := .dK (mergeK [] ws)) hl
      exact q _ _ ι R4 P4 ⟨l, rfl, ⟨_, upd_same, (RK.merge hk .nil).mono P4.stay P4.pre⟩, n1, n2⟩ ⟨l, rfl, hl⟩
  · cases hm
theorem wp_dictT {ds : List D} {kvs : List (Key × D)} {e : En} {S : Sto} {Q : R → En → Sto → Prop} (hk : prsOf ds = some kvs) : Wp (gDictT (.d (.tup ds))) e S Q ↔ Q (.new (.dct (mergeD [] kvs))) e S := by
  constructor
  · rintro ⟨r, e', S', h, q⟩
    have h : (prsOf ds).map (fun kvs => (R.new (.dct (mergeD [] kvs)), e, S)) = some (r, e', S') := h
    rw [hk] at h
    cases h
    exact q
  · intro q
    exact ⟨_, _, _, show (prsOf ds).map (fun kvs => (R.new (.dct (mergeD [] kvs)), e, S)) = _ by rw [hk]; rfl, q⟩
end
end G

set_option Elab.async false
set_option linter.all false
set_option maxRecDepth 1000000
set_option maxHeartbeats 4000000
/-! GTS: sorted(set(..)) of numbers, s.strip(signs). -/
namespace L2
open PySem PySem.Spec PyProof.Rows
section
variable {P : Program} {w : World} {A : Around} {E : Value → Shared → Prop} {s : Shared}
set_option maxRecDepth 100000 in
set_option maxHeartbeats 3200000 in
theorem call_set_listI {l : Addr} {items : Array Value} (ns : List Int) {Q : Value → Shared → Prop} (hh : A.handled = none) (hl : s.heap.IsList l items) (hit : IntsAre items.toList ns) (hb : ns.length + 1 < scanBound)
    (h : ∀ (h' : Heap) (tk c : Nat), SetR w h' s.heap.objs.size (fun j => decide (j ∈ ns)) c → c ≤ ns.length → (∀ b o, s.heap.get? b = some o → h'.get? b = some o) → Q (.ref s.heap.objs.size) { s with heap := h', toks := tk }) :
    wpAny (model P w) A (call (.type "set") [.ref l]) Q E s := by
  have hisz : items.size = ns.length := by
    have q := IntsAre.length hit
    rw [Array.length_toList] at q
    exact q
  obtain ⟨c, tl, hmro⟩ := F.called_set.mro
  have hmade := F.called_set.made
  have hsub := F.called_set.sub
  refine wpAny_call (codeAny_of_tree ?_)
  show wpAny _ _ (callAny (.type "set") _) _ _ _
  refine wpAny_pure ⟨Code.quiet_builtin _ (by decide +kernel), codeAny_builtin F.entry_type_call ?_⟩
  rw [Around.under_plain (weight_type_call_type "set" [.ref l] []) rfl]
  have h1 := F.called_set.notType
  have h2 := F.called_set.canCreate
  have hct := F.typeCall_set_1 (.ref l)
  repeat (any_goals (first | assumption | wp_step))

  refine codeAny_mono (code_set_led1 (.ref l) (E := E) (Q₁ := fun obj s₁ => obj = .ref s.heap.objs.size ∧ s₁ = { s with heap := s.heap.push { cls := .type "set", dict := none, data := .set #[] 0 (.fresh 0 0 (!w.params.followText "set-order")) } }) ⟨rfl, rfl⟩) fun r s₁ hr => ?_
  cases r with
  | error e => exact hr
  | ok fl =>
    cases fl with
    | ret obj =>
      obtain ⟨rfl, rfl⟩ := hr
      have hS : (s.heap.push { cls := .type "set", dict := none, data := .set #[] 0 (.fresh 0 0 (!w.params.followText "set-order")) }).get? s.heap.objs.size = some { cls := .type "set", dict := none, data := .set #[] 0 (.fresh 0 0 (!w.params.followText "set-order")) } := Heap.get?_push_size _ rfl
      have hT : Shared.TypeIs { s with heap := s.heap.push { cls := .type "set", dict := none, data := .set #[] 0 (.fresh 0 0 (!w.params.followText "set-order")) } } (.ref s.heap.objs.size) "set" := ⟨_, hS, rfl⟩
      have hli := F.called_set.init.lookup
      have hbi := F.called_set.init.bind (.ref s.heap.objs.size)
      repeat (any_goals (first | assumption | wp_step))

      refine codeAny_mono (codeAny_call_builtin (R := wants (fun r s₂ => r = .none ∧ ∃ h' tk c, s₂ = { s with heap := h', toks := tk } ∧ SetR w h' s.heap.objs.size (fun j => decide (j ∈ ns)) c ∧ c ≤ ns.length ∧
          (∀ b o, s.heap.get? b = some o → h'.get? b = some o)) E) F.called_set.init.plain F.entry_set_init (check_set_init_1 hT ?_)) fun r₂ s₂ hr₂ => ?_
      · obtain ⟨ol, hol, hcl, nl, hdl⟩ := hl
        obtain ⟨ocls, odict, odata, oslots⟩ := ol
        simp only at hcl hdl
        subst hcl; subst hdl
        have hol' : (s.heap.push { cls := .type "set", dict := none, data := .set #[] 0 (.fresh 0 0 (!w.params.followText "set-order")) }).get? l = some { cls := .type "list", dict := odict, data := .seq items nl, slots := oslots } := Heap.get?_push_of_some _ hol
        have hsls := F.sub_list_set
        have hslf := F.sub_list_frozenset
        have hne : (Value.type "tuple" == Value.type "dict") = false := by decide
        have hl1 : (s.heap.push { cls := .type "set", dict := none, data := .set #[] 0 (.fresh 0 0 (!w.params.followText "set-order")) }).IsList l items := ⟨_, hol', rfl, nl, rfl⟩
        unfold Builtin.«set.__init__» noKeywords Builtin.Frozenset.updateFrom
        generalize hPI : pyIter = PI
        wp_walk
        subst hPI

        refine wpAny_pyIter_list hl1 ?_
        refine wpAny_bind (wpAny_runValue ?_)
        have hlS : l < s.heap.objs.size := Heap.lt_size hol
        have hh3 : A.in1.in1.in1.handled = none := by simp [hh]
        have hz1 : (s.heap.push { cls := .type "set", dict := none, data := .set #[] 0 (.fresh 0 0 (!w.params.followText "set-order")) }).objs.size = s.heap.objs.size + 1 := Heap.size_push ..
        have hneI : l ≠ (s.heap.push { cls := .type "set", dict := none, data := .set #[] 0 (.fresh 0 0 (!w.params.followText "set-order")) }).objs.size := by
          rw [Heap.size_push]; exact Nat.ne_of_lt (Nat.lt_succ_of_lt hlS)
        have hSf : s.heap.objs.size ∉ [(s.heap.push { cls := .type "set", dict := none, data := .set #[] 0 (.fresh 0 0 (!w.params.followText "set-order")) }).objs.size, l] := by
          rw [Heap.size_push]; simp only [List.mem_cons, List.mem_singleton, List.not_mem_nil, or_false, not_or]
          exact ⟨Nat.ne_of_lt (Nat.lt_succ_self _), Nat.ne_of_gt hlS⟩
        have hval : ∀ (i : Nat) (v : Value), items[i]? = some v → ∃ k t, ns[i]? = some k ∧ v = .int k t := fun i v hv => by
          have hi : i < ns.length := by rw [← hisz]; exact (Array.getElem?_eq_some_iff.mp hv).1
          obtain ⟨t, e⟩ := PyProof.Rows.IntsAre.int_at hit i v (by rw [Array.getElem?_toList]; exact hv)
          refine ⟨ns[i], t, List.getElem?_eq_getElem hi, ?_⟩
          rw [e, List.getD_eq_getElem?_getD, List.getElem?_eq_getElem hi] <;> rfl
        refine set_update_ints ((Walks.list hh3 _ l hneI items).toS) s.heap.objs.size
          hSf ns hisz hb hval (items.size - 0) 0 _ (by omega) (Nat.zero_le _)
          ⟨⟨_, Heap.get?_push_size _ rfl, rfl, rfl⟩, (hl1.push _)⟩ ?hS0 ?hR
        case hS0 =>
          have hget : ((s.heap.push { cls := .type "set", dict := none, data := .set #[] 0 (.fresh 0 0 (!w.params.followText "set-order")) }).push { cls := .type "list_iterator", data := .fields #[.ref l, .int 0 0] }).get? s.heap.objs.size
              = some { cls := .type "set", dict := none, data := .set #[] 0 (.fresh 0 0 (!w.params.followText "set-order")) } := Heap.get?_push_of_some _ hS
          exact ⟨0, Nat.le_refl 0, setR_new_at hget⟩
        case hR =>
          intro s' c' hm hc' hS'
          obtain ⟨h', g2, d', tk', os'⟩ := s'
          have eg : g2 = s.gens := hm.gens
          have ed : d' = s.drawn := hm.drawn
          have eo : os' = s.os := hm.os
          subst eg; subst ed; subst eo
          show wpAny _ _ _ _ _ _
          refine wpAny_pure ?_
          show wpAny _ _ (ret Value.none) _ _ _
          rw [hisz] at hc'
          refine wpAny_pure ⟨rfl, h', tk', c', rfl, hS', hc', fun b o e => ?_⟩
          have hb0 : b < s.heap.objs.size := Heap.lt_size e
          have hb1 : b ≠ s.heap.objs.size := Nat.ne_of_lt hb0
          have hb2 : b ≠ (s.heap.push { cls := .type "set", dict := none, data := .set #[] 0 (.fresh 0 0 (!w.params.followText "set-order")) }).objs.size := by
            rw [Heap.size_push]; exact Nat.ne_of_lt (Nat.lt_succ_of_lt hb0)
          exact hm.heap b o (by simp only [List.mem_cons, List.mem_singleton, List.not_mem_nil, or_false, not_or]; exact ⟨hb1, hb2⟩) (Heap.get?_push_of_some _ (Heap.get?_push_of_some _ e))

      · cases r₂ with
        | error e => exact hr₂
        | ok fl₂ =>
          cases fl₂ with
          | ret r =>
            obtain ⟨rfl, h', tk, c', rfl, hS', hc', hk'⟩ := hr₂
            repeat (any_goals (first | assumption | wp_step))
            exact h _ _ _ hS' hc' hk'
          | _ => exact hr₂.elim
    | _ => exact hr.elim

end
end L2

set_option Elab.async false
set_option linter.all false
set_option maxRecDepth 1000000
set_option maxHeartbeats 4000000
/-! GTSA: sorted(set(..)) of numbers, s.strip(signs): mirrors. -/
namespace G
variable [Wld]
open PySem PySem.Spec PyProof.Rows L2
/-- the members, in order -/
def insI (k : Int) : List Int → List Int
  | [] => [k]
  | x :: r => if k < x then k :: x :: r else if k = x then x :: r else x :: insI k r
def sdI (ns : List Int) : List Int := ns.foldr insI []
theorem insI_mem {k j : Int} : ∀ {l : List Int}, j ∈ insI k l ↔ j = k ∨ j ∈ l
  | [] => by simp [insI]
  | x :: r => by
    unfold insI
    split
    · simp
    · split
      · rename_i h; subst h; simp
      · rw [List.mem_cons, insI_mem, List.mem_cons]
        constructor
        · rintro (h | h | h) <;> simp [h]
        · rintro (h | h | h) <;> simp [h]
theorem insI_sorted {k : Int} : ∀ {l : List Int}, l.Pairwise (· < ·) → (insI k l).Pairwise (· < ·)
  | [], _ => by simp [insI]
  | x :: r, h => by
    rw [List.pairwise_cons] at h
    unfold insI
    split
    · rename_i hk
      rw [List.pairwise_cons, List.pairwise_cons]
      refine ⟨fun j hj => ?_, h⟩
      rcases List.mem_cons.mp hj with rfl | hj
      · exact hk
      · have := h.1 j hj; omega
    · split
      · rw [List.pairwise_cons]; exact h
      · rw [List.pairwise_cons]
        refine ⟨fun j hj => ?_, insI_sorted h.2⟩
        rcases insI_mem.mp hj with rfl | hj
        · omega
        · exact h.1 j hj
theorem sdI_mem {j : Int} : ∀ {ns : List Int}, j ∈ sdI ns ↔ j ∈ ns
  | [] => by simp [sdI]
  | x :: r => by
    show j ∈ insI x (sdI r) ↔ _
    rw [insI_mem, sdI_mem, List.mem_cons]
theorem sdI_sorted : ∀ {ns : List Int}, (sdI ns).Pairwise (· < ·)
  | [] => List.Pairwise.nil
  | x :: r => insI_sorted (sdI_sorted (ns := r))
theorem sorted_same : ∀ {l m : List Int}, l.Pairwise (· < ·) → m.Pairwise (· < ·) → (∀ k, k ∈ l ↔ k ∈ m) → l = m
  | [], [], _, _, _ => rfl
  | [], y :: s, _, _, h => by have := (h y).mpr (by simp); simp at this
  | x :: r, [], _, _, h => by have := (h x).mp (by simp); simp at this
  | x :: r, y :: s, h1, h2, h => by
    rw [List.pairwise_cons] at h1 h2
    have hxy : x = y := by
      rcases List.mem_cons.mp ((h x).mp (by simp)) with e | hx
      · exact e
      · rcases List.mem_cons.mp ((h y).mpr (by simp)) with e | hy
        · exact e.symm
        · have a := h2.1 x hx
          have b := h1.1 y hy
          omega
    subst hxy
    refine congrArg (x :: ·) (sorted_same h1.2 h2.2 fun k => ⟨fun hk => ?_, fun hk => ?_⟩)
    · rcases List.mem_cons.mp ((h k).mp (List.mem_cons_of_mem _ hk)) with e | z
      · have := h1.1 k hk; omega
      · exact z
    · rcases List.mem_cons.mp ((h k).mpr (List.mem_cons_of_mem _ hk)) with e | z
      · have := h2.1 k hk; omega
      · exact z
section
variable {X : Cx}
def tSortSet (K : PySem.W.Frag) (w : World) (ta : TE) : TE := fun σ H Q => ta σ H fun x H1 => ∃ (l : Addr) (ns : List Int), x = .ref l ∧ SqL K H1 l (ns.map V.int) ∧ ns.length ≤ 60 ∧
  ∀ (a p : Addr) (c : Nat), H1 a = none → upd H1 a (SetO w a (fun j => decide (j ∈ ns)) c) p = none → Q (.ref p) (upd (upd H1 a (SetO w a (fun j => decide (j ∈ ns)) c)) p (.lst ((sdI ns).map V.int)))
theorem pe_sortSet {a : Expr} {ta : TE} {p p2 q pos : Pos} (hc : X.calm = true) (hg : Gl X "sorted") (hm : X.mg "sorted" = none) (hg2 : Gl X "set") (hm2 : X.mg "set" = none) (ha : PE X a ta)
    (na : starEach [a] X.env = (false, eval a X.env) :: starEach [] X.env := by rfl) : PE X (.Call (.Name "sorted" p) [.Call (.Name "set" p2) [a] [] q] [] pos) (tSortSet X.K X.w ta) := by
  refine ⟨fun pins s σ H Q I h => Call_ (ld_blt I hg hm PyProof.Rows.boot_sorted (PyProof.Rows.callWith_builtin1 (PyProof.Rows.args_cons ?_ rfl) rfl rfl))⟩
  refine Call_ (ld_blt I hg2 hm2 PyProof.Rows.boot_set (PyProof.Rows.callWith_type1 (PyProof.Rows.args_cons (thn (ha.run pins s σ H _ I h) fun v s1 ⟨x, H1, I1, r1, l, ns, ex, hl, h1, k⟩ => PyProof.Rows.args_nil ?_) na) na rfl))
  subst ex
  cases r1
  obtain ⟨its, r, pl, hz⟩ := I1.list hl
  refine call_set_listI (ns := ns) (I1.ok.hd hc) pl.isList (by simpa using intsAre_of r) (Nat.lt_of_lt_of_le (show ns.length + 1 < 62 by omega) (by decide)) fun h' tk c R hcl keep => PyProof.Rows.args_nil ?_
  have hn : H1 s1.heap.objs.size = none := I1.hok.fresh (Nat.le_refl _)
  have I2 : Inv X pins σ (upd H1 s1.heap.objs.size (SetO X.w s1.heap.objs.size (fun j => decide (j ∈ ns)) c)) { s1 with heap := h', toks := tk } := I1.laid keep (Nat.le_refl _) (setO_new R)
  refine cr_sortedSet hc pins _ σ _ [V.ref s1.heap.objs.size] [.ref s1.heap.objs.size] Q I2 (.cons rfl .nil) ⟨_, _, c, rfl, upd_same, by omega, fun ms p hs hmem hlen hp => ?_⟩
  have e : ms = sdI ns := sorted_same hs sdI_sorted fun k => by rw [hmem k, sdI_mem]; simp
  rw [e]
  exact k _ _ _ hn hp
def intsL : List D → Option (List Int)
  | [] => some []
  | .int i :: ds => (intsL ds).map (i :: ·)
  | _ => none
theorem RDs.intsL {K : PySem.W.Frag} {H : Hp} {ι : List Addr} : ∀ {vs : List V} {ds : List D} {ns : List Int}, RDs K H ι vs ds → intsL ds = some ns → vs = ns.map V.int
  | _, _, _, .nil, h => by cases h; rfl
  | _, _, _, .cons (d := d) h1 h2, h => by
    cases d <;> simp only [G.intsL, reduceCtorEq] at h
    obtain ⟨ns, h3, rfl⟩ := Option.map_eq_some_iff.mp h
    cases h1
    rw [RDs.intsL h2 h3]
    rfl
theorem intsL_map (ns : List Int) : intsL (ns.map D.int) = some ns := by
  induction ns with
  | nil => rfl
  | cons n ns ih => simp [intsL, ih]
theorem rds_ints {K : PySem.W.Frag} {H : Hp} {ι : List Addr} : ∀ ns : List Int, RDs K H ι (ns.map V.int) (ns.map D.int)
  | [] => .nil
  | n :: ns => .cons (.int n) (rds_ints ns)
def gSortSet (r : R) : M R := fun e S => (lstOf r e S).bind fun ds => (intsL ds).bind fun ns => if ns.length ≤ 60 then some (.new (.lst ((sdI ns).map D.int)), e, S) else none
theorem ge_sortSet {a : Expr} {m : M R} {p p2 q pos : Pos} (hc : X.calm = true) (hg : Gl X "sorted") (hm : X.mg "sorted" = none) (hg2 : Gl X "set") (hm2 : X.mg "set" = none) (ha : GE X a m)
    (na : starEach [a] X.env = (false, eval a X.env) :: starEach [] X.env := by rfl) : GE X (.Call (.Name "sorted" p) [.Call (.Name "set" p2) [a] [] q] [] pos) (bnd m gSortSet) := PE.imp (pe_sortSet hc hg hm hg2 hm2 ha na) fun σ H Q q => by
  obtain ⟨ι, e, S, r, e', S', R, hm, q⟩ := q
  obtain ⟨x, e1, S1, h1, hm⟩ := bnd_eq hm
  refine ⟨ι, e, S, _, e1, S1, R, h1, fun v H1 ι1 R1 P1 r1 _ => ?_⟩
  obtain ⟨ds, g1, hm⟩ := Option.bind_eq_some_iff.mp (show (lstOf x e1 S1).bind _ = _ from hm)
  obtain ⟨ns, g2, hm⟩ := Option.bind_eq_some_iff.mp hm
  split at hm
  · rename_i hz
    cases hm
    obtain ⟨l, vs, rfl, hl, hd⟩ := R1.lst r1 g1
    obtain rfl := hd.intsL g2
    refine ⟨l, ns, rfl, hl, hz, fun a p c hn hp => ?_⟩
    obtain ⟨R2, P2, _, _⟩ := R1.new (u := SetO X.w a (fun j => decide (j ∈ ns)) c) hn
    obtain ⟨R3, P3, n1, n2⟩ := R2.new (u := .lst ((sdI ns).map V.int)) hp
    have hp1 : H1 p = none := by
      by_cases h : p = a
      · rw [h]; exact hn
      · rw [upd_ne h] at hp; exact hp
    exact q _ _ ι1 R3 ((P1.trans P2).trans P3) ⟨p, rfl, ⟨_, upd_same, rds_ints _⟩, n1, n2⟩ ⟨p, rfl, P1.back hp1⟩
  · cases hm
theorem wp_sortSet {r : R} {ns : List Int} {e : En} {S : Sto} {Q : R → En → Sto → Prop} (h : lstOf r e S = some (ns.map D.int)) (hz : ns.length ≤ 60) (q : Q (.new (.lst ((sdI ns).map D.int))) e S) : Wp (gSortSet r) e S Q :=
  ⟨_, e, S, by unfold gSortSet; rw [h]; show (intsL (ns.map D.int)).bind _ = _; rw [intsL_map]; exact if_pos hz, q⟩
/-! ### s.strip(signs) -/
def gStripC (x : R) (rs : List R) : M R := fun e S => match x, rs with
  | .d (.str a), [.d (.str b)] => if a.length ≤ 1000000 then some (.d (.str (Txt.stripChars a b)), e, S) else none
  | _, _ => none
theorem mg_stripC {X : Cx} : MtR X "str.strip" (tOM X.K gStripC) := MtR.imp mt_stripChars fun x xs H Q q => by
  obtain ⟨ι, σ, e, S, rx, rs, r, e', S', R, hx, hxs, hm, q⟩ := q
  unfold gStripC at hm
  split at hm
  · split at hm
    · cases hm
      cases hx
      cases hxs with
      | cons h1 h2 =>
        cases h2
        cases h1
        exact ⟨_, _, rfl, rfl, Nat.le_trans (by assumption) line_ge, q _ H ι R .refl (.str _) trivial⟩
    · cases hm
  · cases hm
theorem wp_stripC {a b : Str} {e : En} {S : Sto} {Q : R → En → Sto → Prop} : Wp (gStripC (.d (.str a)) [.d (.str b)]) e S Q ↔ a.length ≤ 1000000 ∧ Q (.d (.str (Txt.stripChars a b))) e S := by
  constructor
  · rintro ⟨r, e', S', h, q⟩
    have h : (if a.length ≤ 1000000 then some (R.d (.str (Txt.stripChars a b)), e, S) else none) = some (r, e', S') := h
    split at h
    · cases h
      exact ⟨by assumption, q⟩
    · cases h
  · rintro ⟨h, q⟩
    exact ⟨_, _, _, by unfold gStripC; exact if_pos h, q⟩
end
end G

set_option Elab.async false
set_option linter.all false
set_option maxRecDepth 100000
set_option maxHeartbeats 4000000
namespace G
variable [Wld]
open PySem PySem.Spec PyProof.Rows L2
def topS (i : Nat) : Stmt := PySem.Challenge.pw_standviews_k15_what_is_a_right.main.body.getD i (.Pass ⟨0, 0, 0, 0⟩)
structure FA where
  FORMS : Addr
  is_is : Addr
  is_below : Addr
  is_like : Addr
  are_checks : Addr
def tb_FORMS (A : FA) : List (Str × D) := List.zip ["is", "below", "like", "not", "and", "or"] [.tup [.int 2, .fn A.is_is], .tup [.int 2, .fn A.is_below], .tup [.int 2, .fn A.is_like], .tup [.int 1, .fn A.are_checks], .tup [.int 2, .fn A.are_checks], .tup [.int 2, .fn A.are_checks]]
structure Dis (A : FA) : Prop where
  is_below_is_is : A.is_below ≠ A.is_is
  is_like_is_is : A.is_like ≠ A.is_is
  are_checks_is_is : A.are_checks ≠ A.is_is
  is_like_is_below : A.is_like ≠ A.is_below
  are_checks_is_below : A.are_checks ≠ A.is_below
  are_checks_is_like : A.are_checks ≠ A.is_like
structure Txt (K : PySem.W.Frag) (w : World) (mg : Str → Option Value) (A : FA) : Prop where
  wld : w = Wld.w
  m_FORMS : mg "FORMS" = some (.ref A.FORMS)
  m_is_is : mg "is_is" = some (.ref A.is_is)
  m_is_below : mg "is_below" = some (.ref A.is_below)
  m_is_like : mg "is_like" = some (.ref A.is_like)
  m_are_checks : mg "are_checks" = some (.ref A.are_checks)
  t_FORMS : KTab K w A.FORMS (tb_FORMS A)
  n_abs : mg "abs" = none
  n_all : mg "all" = none
  n_bool : mg "bool" = none
  n_dict : mg "dict" = none
  n_int : mg "int" = none
  n_isinstance : mg "isinstance" = none
  n_len : mg "len" = none
  n_list : mg "list" = none
  n_min : mg "min" = none
  n_range : mg "range" = none
  n_repr : mg "repr" = none
  n_set : mg "set" = none
  n_sorted : mg "sorted" = none
  n_str : mg "str" = none
  n_tuple : mg "tuple" = none
  c_LETTERS : ∃ t, mg "LETTERS" = some (.str "abcdefghijklmnopqrstuvwxyz" t)
  c_MOST_LETTERS : ∃ t, mg "MOST_LETTERS" = some (.int 8 t)
  c_NUMBER : ∃ t, mg "NUMBER" = some (.str "number" t)
  c_GREATEST : ∃ t, mg "GREATEST" = some (.int 1000000000 t)
  d_is_whole : DF K mg "is_whole" "is_whole" (topS 3) ["thing"]
  d_is_name : DF K mg "is_name" "is_name" (topS 4) ["thing"]
  d_is_number : DF K mg "is_number" "is_number" (topS 8) ["thing"]
  d_fits : DF K mg "fits" "fits" (topS 9) ["kind", "thing"]
  d_kind_of : DF K mg "kind_of" "kind_of" (topS 11) ["columns", "name"]
  d_is_is : DF K mg "is_is" "is_is" (topS 12) ["columns", "parts"]
  d_is_below : DF K mg "is_below" "is_below" (topS 13) ["columns", "parts"]
  d_is_like : DF K mg "is_like" "is_like" (topS 14) ["columns", "parts"]
  d_are_checks : DF K mg "are_checks" "are_checks" (topS 15) ["columns", "parts"]
  d_is_check : DF K mg "is_check" "is_check" (topS 17) ["columns", "thing"]
  d_columns_in : DF K mg "columns_in" "columns_in" (topS 19) ["plan", "table"]
  d_are_some_names : DF K mg "are_some_names" "are_some_names" (topS 20) ["columns", "thing"]
  d_is_right : DF K mg "is_right" "is_right" (topS 21) ["plan", "table", "thing"]
  d__law_hand : DF K mg "_law_hand" "_law_hand" (topS 23) ["_law_script", "_law_k"]
  d__law_take : DF K mg "_law_take" "_law_take" (topS 24) ["_law_hand_here", "_law_many"]
  d__law_pick : DF K mg "_law_pick" "_law_pick" (topS 25) ["_law_hand_here", "_law_some"]
  d__law_columns : DF K mg "_law_columns" "_law_columns" (topS 26) ["_law_hand_here"]
  d__law_plan : DF K mg "_law_plan" "_law_plan" (topS 27) ["_law_hand_here", "_law_many"]
  d__law_worth : DF K mg "_law_worth" "_law_worth" (topS 28) ["_law_hand_here", "_law_kind", "_law_is_key"]
  d__law_check : DF K mg "_law_check" "_law_check" (topS 29) ["_law_hand_here", "_law_columns_here", "_law_deep"]
  d__law_right : DF K mg "_law_right" "_law_right" (topS 30) ["_law_hand_here", "_law_columns_here"]
  d__law_fits : DF K mg "_law_fits" "_law_fits" (topS 31) ["_law_worth_here", "_law_kind"]
  d__law_is_check : DF K mg "_law_is_check" "_law_is_check" (topS 32) ["_law_columns_here", "_law_thing"]
  d__law_is_right : DF K mg "_law_is_right" "_law_is_right" (topS 33) ["_law_plan_here", "_law_table", "_law_thing"]
  d__law_odd : DF K mg "_law_odd" "_law_odd" (topS 34) ["_law_hand_here"]
  d__law_bent : DF K mg "_law_bent" "_law_bent" (topS 35) ["_law_hand_here", "_law_right_here"]
  d_law : DF K mg "law" "law" (topS 36) ["_law_script"]
section
variable {P : Program} {w : World} {K : PySem.W.Frag} {mg : Str → Option Value} {base : Heap} {A : FA}
abbrev s_is_whole : Stmt := topS 3
abbrev N_is_whole : List Str := ["thing"]
theorem sc_is_whole : FnScope N_is_whole ["thing"] (defScope s_is_whole) := ⟨rfl, rfl, rfl, by decide +kernel, rfl, by decide +kernel, by decide +kernel⟩
noncomputable def b_is_whole : M Fl := (mRet (mAndV (mIsi .int (mVar 0)) (mNotV (mIsi .bool (mVar 0)))))
noncomputable def f_is_whole : Fn := runF 0 (b_is_whole)
theorem g_is_whole (T : Txt K w mg A) : GF P w K mg base 1 "is_whole" 1 (f_is_whole) := GF.bodyOf (k := 0) T.d_is_whole sc_is_whole (fun f cdv A0 outer s H vs Q E hr hgd => (by
  exact (gss_one (gs_ret (ge_and (ge_isi .int (by rfl) T.n_isinstance (by rfl) T.n_int (by decide +kernel) (ge_var 0)) (ge_one (ge_not (ge_isi .bool (by rfl) T.n_isinstance (by rfl) T.n_bool (by decide +kernel) (ge_var 0)))))))))
abbrev s_is_name : Stmt := topS 4
abbrev N_is_name : List Str := ["thing", "sign"]
theorem sc_is_name : FnScope N_is_name ["thing"] (defScope s_is_name) := ⟨rfl, rfl, rfl, by decide +kernel, rfl, by decide +kernel, by decide +kernel⟩
noncomputable def b_is_name : M Fl := (mRet (mAndV (mIsi .str (mVar 0)) (mAndV (mChain (gP dLe) (gP dLe) (mC (.int 1)) (bnd (mCons (mVar 0) mNil) (g1 gLen)) (mC (.int 8))) (bnd (mCons (mLc [1] (gtName 1) (bnd (mVar 0) srcStr) (pur true) (mBin (gIn false) (mVar 1) (mC (.str "abcdefghijklmnopqrstuvwxyz")))) mNil) (g1 (gBls fun bs => bs.all id))))))
noncomputable def f_is_name : Fn := runF 1 (b_is_name)
theorem g_is_name (T : Txt K w mg A) : GF P w K mg base 1 "is_name" 1 (f_is_name) := GF.bodyOf (k := 0) T.d_is_name sc_is_name (fun f cdv A0 outer s H vs Q E hr hgd => (by
  exact (gss_one (gs_ret (ge_and (ge_isi .str (by rfl) T.n_isinstance (by rfl) T.n_str (by decide +kernel) (ge_var 0)) (ge_and (ge_chain gop_le gop_le ge_int (ge_cb cg_len (by rfl) T.n_len PySem.boot_len (ga_cons (ge_var 0) ga_nil)) (ge_gI T.c_MOST_LETTERS (by rfl))) (ge_one (ge_cb (cg_all rfl) (by rfl) T.n_all (by decide +kernel) (ga_cons (ge_lc (own := [("sign", 1)]) rfl sc_is_name.nd (gi_str (ge_var 0)) (blkOk_by (own := [("sign", 1)]) (N := N_is_name) (sc := defScope s_is_name) (by decide +kernel)) (fun _ _ _ _ _ => (gg_name (i := 1) sc_is_name.nd rfl (.inl rfl))) (fun _ _ _ _ _ => gts_nil) (fun _ _ _ _ _ => (ge_cmp (gop_in hr.units) (ge_var 1) (ge_gS T.c_LETTERS (by rfl))))) ga_nil)))))))))
abbrev s_is_number : Stmt := topS 8
abbrev N_is_number : List Str := ["thing"]
theorem sc_is_number : FnScope N_is_number ["thing"] (defScope s_is_number) := ⟨rfl, rfl, rfl, by decide +kernel, rfl, by decide +kernel, by decide +kernel⟩
noncomputable def b_is_number : M Fl := (mRet (mAndV (mCall 1 f_is_whole (mCons (mVar 0) mNil)) (mChain (gP dLe) (gP dLe) (mUn gNeg (mC (.int 1000000000))) (mVar 0) (mC (.int 1000000000)))))
noncomputable def f_is_number : Fn := runF 0 (b_is_number)
theorem g_is_number (T : Txt K w mg A) : GF P w K mg base 2 "is_number" 1 (f_is_number) := GF.bodyOf (k := 1) T.d_is_number sc_is_number (fun f cdv A0 outer s H vs Q E hr hgd => (by
  exact (gss_one (gs_ret (ge_and (ge_call (GF.mono (g_is_whole T) (by decide)) hr hgd (by rfl) (ga_cons (ge_var 0) ga_nil)) (ge_one (ge_chain gop_le gop_le (ge_un gun_neg (ge_gI T.c_GREATEST (by rfl))) (ge_var 0) (ge_gI T.c_GREATEST (by rfl)))))))))
abbrev s_fits : Stmt := topS 9
abbrev N_fits : List Str := ["kind", "thing"]
theorem sc_fits : FnScope N_fits ["kind", "thing"] (defScope s_fits) := ⟨rfl, rfl, rfl, by decide +kernel, rfl, by decide +kernel, by decide +kernel⟩
noncomputable def b_fits : M Fl := (mSeq (mIfS (bnd (mBin (gIsN false) (mVar 1) (mC .non)) asB) (mRet (mC (.bl true))) mSkip) (mRet (mIf (bnd (mBin (gEq false) (mVar 0) (mC (.str "number"))) asB) (mCall 1 f_is_number (mCons (mVar 1) mNil)) (mCall 1 f_is_name (mCons (mVar 1) mNil)))))
noncomputable def f_fits : Fn := runF 0 (b_fits)
theorem g_fits (T : Txt K w mg A) : GF P w K mg base 3 "fits" 2 (f_fits) := GF.bodyOf (k := 2) T.d_fits sc_fits (fun f cdv A0 outer s H vs Q E hr hgd => (by
  exact (gss_cons (gs_if (gt_cmp gop_isN (ge_var 1) ge_non) (gss_one (gs_ret ge_bl)) gss_nil)
    (gss_one (gs_ret (ge_ifExp (gt_cmp (gop_eq hr.units) (ge_var 0) (ge_gS T.c_NUMBER (by rfl))) (ge_call (GF.mono (g_is_number T) (by decide)) hr hgd (by rfl) (ga_cons (ge_var 1) ga_nil)) (ge_call (GF.mono (g_is_name T) (by decide)) hr hgd (by rfl) (ga_cons (ge_var 1) ga_nil))))))))
abbrev s_kind_of : Stmt := topS 11
abbrev N_kind_of : List Str := ["columns", "name", "one", "kind"]
theorem sc_kind_of : FnScope N_kind_of ["columns", "name"] (defScope s_kind_of) := ⟨rfl, rfl, rfl, by decide +kernel, rfl, by decide +kernel, by decide +kernel⟩
noncomputable def b_kind_of : M Fl := (mSeq (mIfS (mNot (bnd (mIsi .str (mVar 1)) asB)) (mRet (mC .non)) mSkip) (mRet (mBin gIx (mBin gAdd (mLc [2, 3] (gtTup 2 (gtCons (gtName 2) (gtCons (gtName 3) gtNil))) (mSrc (mVar 0)) (bnd (mBin (gEq false) (mVar 2) (mVar 1)) asB) (mVar 3)) (mLst (mCons (mC .non) mNil))) (mC (.int 0)))))
noncomputable def f_kind_of : Fn := runF 2 (b_kind_of)
theorem g_kind_of (T : Txt K w mg A) : GF P w K mg base 1 "kind_of" 2 (f_kind_of) := GF.bodyOf (k := 0) T.d_kind_of sc_kind_of (fun f cdv A0 outer s H vs Q E hr hgd => (by
  exact (gss_cons (gs_if (gt_not (gt_val (ge_isi .str (by rfl) T.n_isinstance (by rfl) T.n_str (by decide +kernel) (ge_var 1)))) (gss_one (gs_ret ge_non)) gss_nil)
    (gss_one (gs_ret (ge_ix (hu_of hr) (ge_op gop_add (ge_lc (own := [("one", 2), ("kind", 3)]) rfl sc_kind_of.nd (gi_seq (ge_var 0)) (blkOk_by (own := [("one", 2), ("kind", 3)]) (N := N_kind_of) (sc := defScope s_kind_of) (by decide +kernel)) (fun _ _ _ _ _ => (gg_tup rfl (ggs_cons (gg_name (i := 2) sc_kind_of.nd rfl (.inl rfl)) (ggs_cons (gg_name (i := 3) sc_kind_of.nd rfl (.inl rfl)) ggs_nil)))) (fun _ _ _ _ _ => (gts_one (gt_cmp (gop_eq hr.units) (ge_var 2) (ge_var 1)))) (fun _ _ _ _ _ => (ge_var 3))) (ge_lst (ga_cons ge_non ga_nil))) ge_int))))))
abbrev s_is_is : Stmt := topS 12
abbrev N_is_is : List Str := ["columns", "parts", "kind"]
theorem sc_is_is : FnScope N_is_is ["columns", "parts"] (defScope s_is_is) := ⟨rfl, rfl, rfl, by decide +kernel, rfl, by decide +kernel, by decide +kernel⟩
noncomputable def b_is_is : M Fl := (mSeq (mSet 2 (mCall 2 f_kind_of (mCons (mVar 0) (mCons (mBin gIx (mVar 1) (mC (.int 0))) mNil)))) (mRet (mAndV (mBin (gIsN true) (mVar 2) (mC .non)) (mCall 2 f_fits (mCons (mVar 2) (mCons (mBin gIx (mVar 1) (mC (.int 1))) mNil))))))
noncomputable def f_is_is : Fn := runF 1 (b_is_is)
theorem g_is_is (T : Txt K w mg A) : GF P w K mg base 4 "is_is" 2 (f_is_is) := GF.bodyOf (k := 3) T.d_is_is sc_is_is (fun f cdv A0 outer s H vs Q E hr hgd => (by
  exact (gss_cons (gs_set (i := 2) sc_is_is.nd rfl (.inl rfl) (ge_call (GF.mono (g_kind_of T) (by decide)) hr hgd (by rfl) (ga_cons (ge_var 0) (ga_cons (ge_ix (hu_of hr) (ge_var 1) ge_int) ga_nil))))
    (gss_one (gs_ret (ge_and (ge_cmp gop_notN (ge_var 2) ge_non) (ge_one (ge_call (GF.mono (g_fits T) (by decide)) hr hgd (by rfl) (ga_cons (ge_var 2) (ga_cons (ge_ix (hu_of hr) (ge_var 1) ge_int) ga_nil))))))))))
abbrev s_is_below : Stmt := topS 13
abbrev N_is_below : List Str := ["columns", "parts"]
theorem sc_is_below : FnScope N_is_below ["columns", "parts"] (defScope s_is_below) := ⟨rfl, rfl, rfl, by decide +kernel, rfl, by decide +kernel, by decide +kernel⟩
noncomputable def b_is_below : M Fl := (mRet (mAndV (mBin (gEq false) (mCall 2 f_kind_of (mCons (mVar 0) (mCons (mBin gIx (mVar 1) (mC (.int 0))) mNil))) (mC (.str "number"))) (mCall 1 f_is_number (mCons (mBin gIx (mVar 1) (mC (.int 1))) mNil))))
noncomputable def f_is_below : Fn := runF 0 (b_is_below)
theorem g_is_below (T : Txt K w mg A) : GF P w K mg base 3 "is_below" 2 (f_is_below) := GF.bodyOf (k := 2) T.d_is_below sc_is_below (fun f cdv A0 outer s H vs Q E hr hgd => (by
  exact (gss_one (gs_ret (ge_and (ge_cmp (gop_eq hr.units) (ge_call (GF.mono (g_kind_of T) (by decide)) hr hgd (by rfl) (ga_cons (ge_var 0) (ga_cons (ge_ix (hu_of hr) (ge_var 1) ge_int) ga_nil))) (ge_gS T.c_NUMBER (by rfl))) (ge_one (ge_call (GF.mono (g_is_number T) (by decide)) hr hgd (by rfl) (ga_cons (ge_ix (hu_of hr) (ge_var 1) ge_int) ga_nil))))))))
abbrev s_is_like : Stmt := topS 14
abbrev N_is_like : List Str := ["columns", "parts", "kind"]
theorem sc_is_like : FnScope N_is_like ["columns", "parts"] (defScope s_is_like) := ⟨rfl, rfl, rfl, by decide +kernel, rfl, by decide +kernel, by decide +kernel⟩
noncomputable def b_is_like : M Fl := (mSeq (mSet 2 (mCall 2 f_kind_of (mCons (mVar 0) (mCons (mBin gIx (mVar 1) (mC (.int 0))) mNil)))) (mRet (mAndV (mBin (gIsN true) (mVar 2) (mC .non)) (mBin (gEq false) (mVar 2) (mCall 2 f_kind_of (mCons (mVar 0) (mCons (mBin gIx (mVar 1) (mC (.int 1))) mNil)))))))
noncomputable def f_is_like : Fn := runF 1 (b_is_like)
theorem g_is_like (T : Txt K w mg A) : GF P w K mg base 2 "is_like" 2 (f_is_like) := GF.bodyOf (k := 1) T.d_is_like sc_is_like (fun f cdv A0 outer s H vs Q E hr hgd => (by
  exact (gss_cons (gs_set (i := 2) sc_is_like.nd rfl (.inl rfl) (ge_call (GF.mono (g_kind_of T) (by decide)) hr hgd (by rfl) (ga_cons (ge_var 0) (ga_cons (ge_ix (hu_of hr) (ge_var 1) ge_int) ga_nil))))
    (gss_one (gs_ret (ge_and (ge_cmp gop_notN (ge_var 2) ge_non) (ge_one (ge_cmp (gop_eq hr.units) (ge_var 2) (ge_call (GF.mono (g_kind_of T) (by decide)) hr hgd (by rfl) (ga_cons (ge_var 0) (ga_cons (ge_ix (hu_of hr) (ge_var 1) ge_int) ga_nil)))))))))))
abbrev s_are_checks : Stmt := topS 15
abbrev N_are_checks : List Str := ["columns", "parts", "part"]
theorem sc_are_checks : FnScope N_are_checks ["columns", "parts"] (defScope s_are_checks) := ⟨rfl, rfl, rfl, by decide +kernel, rfl, by decide +kernel, by decide +kernel⟩
noncomputable def b_are_checks (self : Fn) : M Fl := (mRet (bnd (mCons (mLc [2] (gtName 2) (mSrc (mVar 1)) (pur true) (mCall 2 self (mCons (mVar 0) (mCons (mVar 2) mNil)))) mNil) (g1 (gBls fun bs => bs.all id))))
noncomputable def fo_are_checks (self : Fn) : Fn := runF 1 (b_are_checks self)
theorem go_are_checks (T : Txt K w mg A) (k : Nat) (hk : 0 ≤ k) (self : Fn) (S : GF P w K mg base k "is_check" 2 self) : GF P w K mg base (k + 1) "are_checks" 2 (fo_are_checks self) := GF.bodyOf (k := k + 0) T.d_are_checks sc_are_checks (fun f cdv A0 outer s H vs Q E hr hgd => (by
  exact (gss_one (gs_ret (ge_cb (cg_all rfl) (by rfl) T.n_all (by decide +kernel) (ga_cons (ge_lc (own := [("part", 2)]) rfl sc_are_checks.nd (gi_seq (ge_var 1)) (blkOk_by (own := [("part", 2)]) (N := N_are_checks) (sc := defScope s_are_checks) (by decide +kernel)) (fun _ _ _ _ _ => (gg_name (i := 2) sc_are_checks.nd rfl (.inl rfl))) (fun _ _ _ _ _ => gts_nil) (fun _ _ _ _ _ => (ge_call (GF.mono S (by omega)) hr hgd (by rfl) (ga_cons (ge_var 0) (ga_cons (ge_var 2) ga_nil))))) ga_nil))))))
abbrev s_is_check : Stmt := topS 17
abbrev N_is_check : List Str := ["columns", "thing", "word", "many", "looked", "parts"]
theorem sc_is_check : FnScope N_is_check ["columns", "thing"] (defScope s_is_check) := ⟨rfl, rfl, rfl, by decide +kernel, rfl, by decide +kernel, by decide +kernel⟩
noncomputable def b_is_check (A : FA) (self : Fn) : M Fl := (mSeq (mIfS (mOr (mNot (bnd (mIsi .tuple (mVar 1)) asB)) (mOr (bnd (mBin (gEq false) (bnd (mCons (mVar 1) mNil) (g1 gLen)) (mC (.int 0))) asB) (mNot (bnd (mIsi .str (mBin gIx (mVar 1) (mC (.int 0)))) asB)))) (mRet (mC (.bl false))) mSkip) (mSeq (mStar 2 5 (mVar 1)) (mSeq (mIfS (bnd (mBin (gInT true A.FORMS (tb_FORMS A)) (mVar 2) (mC (.fn A.FORMS))) asB) (mRet (mC (.bl false))) mSkip) (mSeq (mAsg (gtTup 2 (gtCons (gtName 3) (gtCons (gtName 4) gtNil))) (mBin (gIxT A.FORMS (tb_FORMS A)) (mC (.fn A.FORMS)) (mVar 2))) (mRet (mAndV (mBin (gEq false) (bnd (mCons (mVar 5) mNil) (g1 gLen)) (mVar 3)) (mCallL 4 2 [(A.is_is, f_is_is), (A.is_below, f_is_below), (A.is_like, f_is_like), (A.are_checks, fo_are_checks self)] (mCons (mVar 0) (mCons (mVar 5) mNil)))))))))
noncomputable def f_is_check (A : FA) : Nat → Fn := recF 4 (b_is_check A)
theorem g_is_check (T : Txt K w mg A) (n : Nat) : GF P w K mg base (4 + 2 * n + 1) "is_check" 2 (f_is_check A n) := GF.recOfS 1 T.d_is_check sc_is_check (fun n self S f cdv A0 outer s H vs Q E hr hgd => (by
  exact (gss_cons (gs_if (GW.gt (gw_or (gt_not (gt_val (ge_isi .tuple (by rfl) T.n_isinstance (by rfl) T.n_tuple (by decide +kernel) (ge_var 1)))) (gw_or (gt_cmp (gop_eq hr.units) (ge_cb cg_len (by rfl) T.n_len PySem.boot_len (ga_cons (ge_var 1) ga_nil)) ge_int) (gw_or1 (gt_not (gt_val (ge_isi .str (by rfl) T.n_isinstance (by rfl) T.n_str (by decide +kernel) (ge_ix (hu_of hr) (ge_var 1) ge_int)))))))) (gss_one (gs_ret ge_bl)) gss_nil)
    (gss_cons (gs_star (i := 2) (j := 5) rfl sc_is_check.nd rfl (.inl rfl) rfl (.inl rfl) (ge_var 1))
    (gss_cons (gs_if (gt_cmp (gop_notInT T.t_FORMS) (ge_var 2) (ge_tab (by rfl) T.m_FORMS)) (gss_one (gs_ret ge_bl)) gss_nil)
    (gss_cons (gs_asg (vs := [3, 4]) (ge_ixT T.t_FORMS (ge_tab (by rfl) T.m_FORMS) (ge_var 2)) (gg_tup rfl (ggs_cons (gg_name (i := 3) sc_is_check.nd rfl (.inl rfl)) (ggs_cons (gg_name (i := 4) sc_is_check.nd rfl (.inl rfl)) ggs_nil))))
    (gss_one (gs_ret (ge_and (ge_cmp (gop_eq hr.units) (ge_cb cg_len (by rfl) T.n_len PySem.boot_len (ga_cons (ge_var 5) ga_nil)) (ge_var 3)) (ge_one (ge_callL (i := 4) (List.forall_mem_cons.mpr ⟨(GF.at_ (g_is_is T) T.m_is_is (by omega)), List.forall_mem_cons.mpr ⟨(GF.at_ (g_is_below T) T.m_is_below (by omega)), List.forall_mem_cons.mpr ⟨(GF.at_ (g_is_like T) T.m_is_like (by omega)), List.forall_mem_cons.mpr ⟨(GF.at_ (go_are_checks T _ (by omega) self S) T.m_are_checks (by omega)), fun q h => (List.not_mem_nil h).elim⟩⟩⟩⟩) hr hgd (ga_cons (ge_var 0) (ga_cons (ge_var 5) ga_nil))))))))))))) n
abbrev s_columns_in : Stmt := topS 19
abbrev N_columns_in : List Str := ["plan", "table"]
theorem sc_columns_in : FnScope N_columns_in ["plan", "table"] (defScope s_columns_in) := ⟨rfl, rfl, rfl, by decide +kernel, rfl, by decide +kernel, by decide +kernel⟩
noncomputable def b_columns_in : M Fl := (mRet (mIf (bnd (mIsi .str (mVar 1)) asB) (mGet2 (bnd (mCons (mVar 0) mNil) (g1 gDictT)) (mVar 1) (mC .non)) (mC .non)))
noncomputable def f_columns_in : Fn := runF 0 (b_columns_in)
theorem g_columns_in (T : Txt K w mg A) : GF P w K mg base 1 "columns_in" 2 (f_columns_in) := GF.bodyOf (k := 0) T.d_columns_in sc_columns_in (fun f cdv A0 outer s H vs Q E hr hgd => (by
  exact (gss_one (gs_ret (ge_ifExp (gt_val (ge_isi .str (by rfl) T.n_isinstance (by rfl) T.n_str (by decide +kernel) (ge_var 1))) (ge_get2 (hu_of hr) (ge_ct (cg_dictT rfl) (by rfl) T.n_dict (by decide +kernel) (ga_cons (ge_var 0) ga_nil)) (ge_var 1) ge_non) ge_non)))))
abbrev s_are_some_names : Stmt := topS 20
abbrev N_are_some_names : List Str := ["columns", "thing", "name", "kind"]
theorem sc_are_some_names : FnScope N_are_some_names ["columns", "thing"] (defScope s_are_some_names) := ⟨rfl, rfl, rfl, by decide +kernel, rfl, by decide +kernel, by decide +kernel⟩
noncomputable def b_are_some_names : M Fl := (mSeq (mIfS (mOr (mNot (bnd (mIsi .tuple (mVar 1)) asB)) (mNot (bnd (bnd (mCons (mLc [2] (gtName 2) (mSrc (mVar 1)) (pur true) (mIsi .str (mVar 2))) mNil) (g1 (gBls fun bs => bs.all id))) asB))) (mRet (mC (.bl false))) mSkip) (mRet (mBin (gEq false) (bnd (mCons (mVar 1) mNil) (g1 gList)) (mLc [2, 3] (gtTup 2 (gtCons (gtName 2) (gtCons (gtName 3) gtNil))) (mSrc (mVar 0)) (bnd (mBin (gIn false) (mVar 2) (mVar 1)) asB) (mVar 2)))))
noncomputable def f_are_some_names : Fn := runF 2 (b_are_some_names)
theorem g_are_some_names (T : Txt K w mg A) : GF P w K mg base 1 "are_some_names" 2 (f_are_some_names) := GF.bodyOf (k := 0) T.d_are_some_names sc_are_some_names (fun f cdv A0 outer s H vs Q E hr hgd => (by
  exact (gss_cons (gs_if (GW.gt (gw_or (gt_not (gt_val (ge_isi .tuple (by rfl) T.n_isinstance (by rfl) T.n_tuple (by decide +kernel) (ge_var 1)))) (gw_or1 (gt_not (gt_val (ge_cb (cg_all rfl) (by rfl) T.n_all (by decide +kernel) (ga_cons (ge_lc (own := [("name", 2)]) rfl sc_are_some_names.nd (gi_seq (ge_var 1)) (blkOk_by (own := [("name", 2)]) (N := N_are_some_names) (sc := defScope s_are_some_names) (by decide +kernel)) (fun _ _ _ _ _ => (gg_name (i := 2) sc_are_some_names.nd rfl (.inl rfl))) (fun _ _ _ _ _ => gts_nil) (fun _ _ _ _ _ => (ge_isi .str (by rfl) T.n_isinstance (by rfl) T.n_str (by decide +kernel) (ge_var 2)))) ga_nil))))))) (gss_one (gs_ret ge_bl)) gss_nil)
    (gss_one (gs_ret (ge_cmp (gop_eq hr.units) (ge_ct cg_list (by rfl) T.n_list (by decide +kernel) (ga_cons (ge_var 1) ga_nil)) (ge_lc (own := [("name", 2), ("kind", 3)]) rfl sc_are_some_names.nd (gi_seq (ge_var 0)) (blkOk_by (own := [("name", 2), ("kind", 3)]) (N := N_are_some_names) (sc := defScope s_are_some_names) (by decide +kernel)) (fun _ _ _ _ _ => (gg_tup rfl (ggs_cons (gg_name (i := 2) sc_are_some_names.nd rfl (.inl rfl)) (ggs_cons (gg_name (i := 3) sc_are_some_names.nd rfl (.inl rfl)) ggs_nil)))) (fun _ _ _ _ _ => (gts_one (gt_cmp (gop_in hr.units) (ge_var 2) (ge_var 1)))) (fun _ _ _ _ _ => (ge_var 2)))))))))
abbrev s_is_right : Stmt := topS 21
abbrev N_is_right : List Str := ["plan", "table", "thing", "columns", "check", "names"]
theorem sc_is_right : FnScope N_is_right ["plan", "table", "thing"] (defScope s_is_right) := ⟨rfl, rfl, rfl, by decide +kernel, rfl, by decide +kernel, by decide +kernel⟩
noncomputable def b_is_right (A : FA) : M Fl := (mSeq (mSet 3 (mCall 2 f_columns_in (mCons (mVar 0) (mCons (mVar 1) mNil)))) (mSeq (mIfS (bnd (mBin (gIsN false) (mVar 3) (mC .non)) asB) (mRet (mC (.bl false))) mSkip) (mSeq (mIfS (bnd (mBin (gIsN false) (mVar 2) (mC .non)) asB) (mRet (mC (.bl true))) mSkip) (mSeq (mIfS (mOr (mNot (bnd (mIsi .tuple (mVar 2)) asB)) (bnd (mBin (gEq true) (bnd (mCons (mVar 2) mNil) (g1 gLen)) (mC (.int 2))) asB)) (mRet (mC (.bl false))) mSkip) (mSeq (mAsg (gtTup 2 (gtCons (gtName 4) (gtCons (gtName 5) gtNil))) (mVar 2)) (mRet (mAndV (mOrV (mBin (gIsN false) (mVar 4) (mC .non)) (mCall 2 (f_is_check A 60) (mCons (mVar 3) (mCons (mVar 4) mNil)))) (mCall 2 f_are_some_names (mCons (mVar 3) (mCons (mVar 5) mNil))))))))))
noncomputable def f_is_right (A : FA) : Fn := runF 3 (b_is_right A)
theorem g_is_right (T : Txt K w mg A) : GF P w K mg base 126 "is_right" 3 (f_is_right A) := GF.bodyOf (k := 125) T.d_is_right sc_is_right (fun f cdv A0 outer s H vs Q E hr hgd => (by
  exact (gss_cons (gs_set (i := 3) sc_is_right.nd rfl (.inl rfl) (ge_call (GF.mono (g_columns_in T) (by decide)) hr hgd (by rfl) (ga_cons (ge_var 0) (ga_cons (ge_var 1) ga_nil))))
    (gss_cons (gs_if (gt_cmp gop_isN (ge_var 3) ge_non) (gss_one (gs_ret ge_bl)) gss_nil)
    (gss_cons (gs_if (gt_cmp gop_isN (ge_var 2) ge_non) (gss_one (gs_ret ge_bl)) gss_nil)
    (gss_cons (gs_if (GW.gt (gw_or (gt_not (gt_val (ge_isi .tuple (by rfl) T.n_isinstance (by rfl) T.n_tuple (by decide +kernel) (ge_var 2)))) (gw_or1 (gt_cmp (gop_ne hr.units) (ge_cb cg_len (by rfl) T.n_len PySem.boot_len (ga_cons (ge_var 2) ga_nil)) ge_int)))) (gss_one (gs_ret ge_bl)) gss_nil)
    (gss_cons (gs_asg (vs := [4, 5]) (ge_var 2) (gg_tup rfl (ggs_cons (gg_name (i := 4) sc_is_right.nd rfl (.inl rfl)) (ggs_cons (gg_name (i := 5) sc_is_right.nd rfl (.inl rfl)) ggs_nil))))
    (gss_one (gs_ret (ge_and (ge_or (ge_cmp gop_isN (ge_var 4) ge_non) (ge_one (ge_call (GF.mono (g_is_check T 60) (by decide)) hr hgd (by rfl) (ga_cons (ge_var 3) (ga_cons (ge_var 4) ga_nil))))) (ge_one (ge_call (GF.mono (g_are_some_names T) (by decide)) hr hgd (by rfl) (ga_cons (ge_var 3) (ga_cons (ge_var 5) ga_nil))))))))))))))
abbrev s__law_hand : Stmt := topS 23
abbrev N__law_hand : List Str := ["_law_script", "_law_k", "_law_cell", "_law_mixed"]
theorem sc__law_hand : FnScope N__law_hand ["_law_script", "_law_k"] (defScope s__law_hand) := ⟨rfl, rfl, rfl, by decide +kernel, rfl, by decide +kernel, by decide +kernel⟩
noncomputable def b__law_hand : M Fl := (mSeq (mSet 2 (mC (.int 0))) (mSeq (mIfS (bnd (mBin (gP dLt) (mVar 1) (bnd (mCons (mVar 0) mNil) (g1 gLen))) asB) (mSet 2 (mBin gIx (mVar 0) (mVar 1))) mSkip) (mSeq (mSet 3 (mBin (gP dMod) (mBin (gP dMul) (mBin gAdd (mBin gAdd (mBin (gP dMod) (mVar 2) (mC (.int 2305843009213693951))) (mBin (gP dMul) (mBin (gP dMul) (mC (.int 6143)) (mVar 1)) (mVar 1))) (mC (.int 19))) (mC (.int 48271))) (mC (.int 2305843009213693921)))) (mRet (mBox (mLst (mCons (mBin (gP dMul) (bnd (mCons (mVar 2) mNil) (g1 gAbs)) (bnd (mCons (mBin (gP fun x y => dLe y x) (bnd (mCons (mVar 2) mNil) (g1 gAbs)) (mBin (gP dPow) (mC (.int 10)) (mC (.int 18)))) mNil) (g1 gInt))) (mCons (mVar 3) (mCons (mC (.int 0)) mNil)))))))))
noncomputable def f__law_hand : Fn := runF 2 (b__law_hand)
theorem g__law_hand (T : Txt K w mg A) : GF P w K mg base 1 "_law_hand" 2 (f__law_hand) := GF.bodyOf (k := 0) T.d__law_hand sc__law_hand (fun f cdv A0 outer s H vs Q E hr hgd => (by
  exact (gss_cons (gs_set (i := 2) sc__law_hand.nd rfl (.inl rfl) ge_int)
    (gss_cons (gs_if (gt_cmp gop_lt (ge_var 1) (ge_cb cg_len (by rfl) T.n_len PySem.boot_len (ga_cons (ge_var 0) ga_nil))) (gss_one (gs_set (i := 2) sc__law_hand.nd rfl (.inl rfl) (ge_ix (hu_of hr) (ge_var 0) (ge_var 1)))) gss_nil)
    (gss_cons (gs_set (i := 3) sc__law_hand.nd rfl (.inl rfl) (ge_op gop_mod (ge_op gop_mulI (ge_op gop_add (ge_op gop_add (ge_op gop_mod (ge_var 2) ge_int) (ge_op gop_mulI (ge_op gop_mulI ge_int (ge_var 1)) (ge_var 1))) ge_int) ge_int) ge_int))
    (gss_one (gs_ret (ge_box (ge_lst (ga_cons (ge_op gop_mulI (ge_cb cg_abs (by rfl) T.n_abs (by decide +kernel) (ga_cons (ge_var 2) ga_nil)) (ge_ct cg_int (by rfl) T.n_int (by decide +kernel) (ga_cons (ge_cmp gop_ge (ge_cb cg_abs (by rfl) T.n_abs (by decide +kernel) (ga_cons (ge_var 2) ga_nil)) (ge_op gop_pow ge_int ge_int)) ga_nil))) (ga_cons (ge_var 3) (ga_cons ge_int ga_nil))))))))))))
abbrev s__law_take : Stmt := topS 24
abbrev N__law_take : List Str := ["_law_hand_here", "_law_many", "_law_mixed", "_law_digit"]
theorem sc__law_take : FnScope N__law_take ["_law_hand_here", "_law_many"] (defScope s__law_take) := ⟨rfl, rfl, rfl, by decide +kernel, rfl, by decide +kernel, by decide +kernel⟩
noncomputable def b__law_take : M Fl := (mSeq (mIfS (bnd (mBin (gP fun x y => dLt y x) (mBin gIx (mVar 0) (mC (.int 0))) (mC (.int 0))) asB) (mSeq (mSet 3 (mBin (gP dMod) (mBin gIx (mVar 0) (mC (.int 0))) (mVar 1))) (mSeq (mSetI (mBin (gP dDiv) (mBin gIx (mVar 0) (mC (.int 0))) (mVar 1)) (mVar 0) (mC (.int 0))) (mRet (mVar 3)))) mSkip) (mSeq (mSetI (mBin gAdd (mBin gIx (mVar 0) (mC (.int 2))) (mC (.int 1))) (mVar 0) (mC (.int 2))) (mSeq (mSet 2 (mBin (gP dMod) (mBin (gP dMul) (mBin gAdd (mBin gAdd (mBin gIx (mVar 0) (mC (.int 1))) (mBin (gP dMul) (mBin (gP dMul) (mC (.int 104729)) (mBin gIx (mVar 0) (mC (.int 2)))) (mBin gIx (mVar 0) (mC (.int 2))))) (mC (.int 13))) (mC (.int 69621))) (mC (.int 2305843009213693921)))) (mSeq (mSet 2 (mBin (gP dMod) (mBin (gP dMul) (mVar 2) (mBin gAdd (mBin (gP dMod) (mVar 2) (mC (.int 999983))) (mBin (gP dMul) (mC (.int 90001)) (mBin gIx (mVar 0) (mC (.int 2)))))) (mC (.int 2305843009213693907)))) (mRet (mBin (gP dMod) (mBin gAdd (mBin (gP dDiv) (mVar 2) (mC (.int 89))) (mBin (gP dDiv) (mVar 2) (mC (.int 999979)))) (mVar 1)))))))
noncomputable def f__law_take : Fn := runF 2 (b__law_take)
theorem g__law_take (T : Txt K w mg A) : GF P w K mg base 1 "_law_take" 2 (f__law_take) := GF.bodyOf (k := 0) T.d__law_take sc__law_take (fun f cdv A0 outer s H vs Q E hr hgd => (by
  exact (gss_cons (gs_if (gt_cmp gop_gt (ge_ix (hu_of hr) (ge_var 0) ge_int) ge_int) (gss_cons (gs_set (i := 3) sc__law_take.nd rfl (.inl rfl) (ge_op gop_mod (ge_ix (hu_of hr) (ge_var 0) ge_int) (ge_var 1)))
    (gss_cons (gs_setI (ge_op gop_div (ge_ix (hu_of hr) (ge_var 0) ge_int) (ge_var 1)) (ge_var 0) ge_int (ha := fun _ => rfl))
    (gss_one (gs_ret (ge_var 3))))) gss_nil)
    (gss_cons (gs_setI (ge_op gop_add (ge_ix (hu_of hr) (ge_var 0) ge_int) ge_int) (ge_var 0) ge_int (ha := fun _ => rfl))
    (gss_cons (gs_set (i := 2) sc__law_take.nd rfl (.inl rfl) (ge_op gop_mod (ge_op gop_mulI (ge_op gop_add (ge_op gop_add (ge_ix (hu_of hr) (ge_var 0) ge_int) (ge_op gop_mulI (ge_op gop_mulI ge_int (ge_ix (hu_of hr) (ge_var 0) ge_int)) (ge_ix (hu_of hr) (ge_var 0) ge_int))) ge_int) ge_int) ge_int))
    (gss_cons (gs_set (i := 2) sc__law_take.nd rfl (.inl rfl) (ge_op gop_mod (ge_op gop_mulI (ge_var 2) (ge_op gop_add (ge_op gop_mod (ge_var 2) ge_int) (ge_op gop_mulI ge_int (ge_ix (hu_of hr) (ge_var 0) ge_int)))) ge_int))
    (gss_one (gs_ret (ge_op gop_mod (ge_op gop_add (ge_op gop_div (ge_var 2) ge_int) (ge_op gop_div (ge_var 2) ge_int)) (ge_var 1))))))))))
abbrev s__law_pick : Stmt := topS 25
abbrev N__law_pick : List Str := ["_law_hand_here", "_law_some"]
theorem sc__law_pick : FnScope N__law_pick ["_law_hand_here", "_law_some"] (defScope s__law_pick) := ⟨rfl, rfl, rfl, by decide +kernel, rfl, by decide +kernel, by decide +kernel⟩
noncomputable def b__law_pick : M Fl := (mRet (mBin gIx (mVar 1) (mCall 2 f__law_take (mCons (mVar 0) (mCons (bnd (mCons (mVar 1) mNil) (g1 gLen)) mNil)))))
noncomputable def f__law_pick : Fn := runF 0 (b__law_pick)
theorem g__law_pick (T : Txt K w mg A) : GF P w K mg base 2 "_law_pick" 2 (f__law_pick) := GF.bodyOf (k := 1) T.d__law_pick sc__law_pick (fun f cdv A0 outer s H vs Q E hr hgd => (by
  exact (gss_one (gs_ret (ge_ix (hu_of hr) (ge_var 1) (ge_call (GF.mono (g__law_take T) (by decide)) hr hgd (by rfl) (ga_cons (ge_var 0) (ga_cons (ge_cb cg_len (by rfl) T.n_len PySem.boot_len (ga_cons (ge_var 1) ga_nil)) ga_nil))))))))
abbrev s__law_columns : Stmt := topS 26
abbrev N__law_columns : List Str := ["_law_hand_here", "_law_kinds", "_law_found", "_law_name"]
theorem sc__law_columns : FnScope N__law_columns ["_law_hand_here"] (defScope s__law_columns) := ⟨rfl, rfl, rfl, by decide +kernel, rfl, by decide +kernel, by decide +kernel⟩
noncomputable def b__law_columns : M Fl := (mSeq (mSet 1 (mLst (mCons (mC (.str "number")) (mCons (mC (.str "name")) mNil)))) (mSeq (mSet 2 (mLst (mCons (mTup (mCons (mC (.str "k")) (mCons (mCall 2 f__law_pick (mCons (mVar 0) (mCons (mVar 1) mNil))) mNil))) mNil))) (mSeq (mFor (gtName 3) (mSrc (mSl (mLst (mCons (mC (.str "x")) (mCons (mC (.str "y")) (mCons (mC (.str "z")) mNil)))) (pur none) (bnd (mCall 2 f__law_take (mCons (mVar 0) (mCons (mC (.int 4)) mNil))) asI))) (mDrop (mMth "list" gAppend (mVar 2) (mCons (mTup (mCons (mVar 3) (mCons (mCall 2 f__law_pick (mCons (mVar 0) (mCons (mVar 1) mNil))) mNil))) mNil)))) (mRet (bnd (mCons (mVar 2) mNil) (g1 gTuple))))))
noncomputable def f__law_columns : Fn := runF 3 (b__law_columns)
theorem g__law_columns (T : Txt K w mg A) : GF P w K mg base 3 "_law_columns" 1 (f__law_columns) := GF.bodyOf (k := 2) T.d__law_columns sc__law_columns (fun f cdv A0 outer s H vs Q E hr hgd => (by
  exact (gss_cons (gs_set (i := 1) sc__law_columns.nd rfl (.inl rfl) (ge_lst (ga_cons ge_str (ga_cons ge_str ga_nil))))
    (gss_cons (gs_set (i := 2) sc__law_columns.nd rfl (.inl rfl) (ge_lst (ga_cons (ge_tup (ga_cons ge_str (ga_cons (ge_call (GF.mono (g__law_pick T) (by decide)) hr hgd (by rfl) (ga_cons (ge_var 0) (ga_cons (ge_var 1) ga_nil))) ga_nil))) ga_nil)))
    (gss_cons (gs_for (vs := [3]) PassesOwn.never rfl (gi_seq (ge_slice (ge_lst (ga_cons ge_str (ga_cons ge_str (ga_cons ge_str ga_nil)))) go_none (go_some (ge_call (GF.mono (g__law_take T) (by decide)) hr hgd (by rfl) (ga_cons (ge_var 0) (ga_cons ge_int ga_nil)))))) (gg_name (i := 3) sc__law_columns.nd rfl (.inl rfl)) (gss_one (gs_expr (ge_m PySem.F.plainAttrs_list PySem.F.slot_list_append PySem.F.type_list_append mg_append (ge_var 2) (ga_cons (ge_tup (ga_cons (ge_var 3) (ga_cons (ge_call (GF.mono (g__law_pick T) (by decide)) hr hgd (by rfl) (ga_cons (ge_var 0) (ga_cons (ge_var 1) ga_nil))) ga_nil))) ga_nil)))))
    (gss_one (gs_ret (ge_ct cg_tuple (by rfl) T.n_tuple (by decide +kernel) (ga_cons (ge_var 2) ga_nil)))))))))
abbrev s__law_plan : Stmt := topS 27
abbrev N__law_plan : List Str := ["_law_hand_here", "_law_many", "_law_some", "_law_names", "_law_at", "_law_turn", "_law_name"]
theorem sc__law_plan : FnScope N__law_plan ["_law_hand_here", "_law_many"] (defScope s__law_plan) := ⟨rfl, rfl, rfl, by decide +kernel, rfl, by decide +kernel, by decide +kernel⟩
noncomputable def b__law_plan : M Fl := (mSeq (mAsg (gtTup 2 (gtCons (gtName 3) (gtCons (gtName 4) gtNil))) (mTup (mCons (mD (mLst (mCons (mC (.str "a")) (mCons (mC (.str "all")) (mCons (mC (.str "k")) (mCons (mC (.str "none")) (mCons (mC (.str "rows")) (mCons (mC (.str "see")) (mCons (mC (.str "t")) (mCons (mC (.str "zzzzzzzz")) mNil)))))))))) (mCons (mCall 2 f__law_take (mCons (mVar 0) (mCons (mC (.int 8)) mNil))) mNil)))) (mSeq (mSet 2 (bnd (mCons (mLc [5] (gtName 5) (bnd (mCons (mVar 1) mNil) srcR1) (pur true) (mBin gIx (mVar 3) (mBin (gP dMod) (mBin gAdd (mVar 4) (mBin (gP dMul) (mC (.int 3)) (mVar 5))) (mC (.int 8))))) mNil) (g1 gSortS))) (mRet (bnd (mCons (mLc [6] (gtName 6) (mSrc (mVar 2)) (pur true) (mTup (mCons (mVar 6) (mCons (mCall 1 f__law_columns (mCons (mVar 0) mNil)) mNil)))) mNil) (g1 gTuple)))))
noncomputable def f__law_plan : Fn := runF 5 (b__law_plan)
theorem g__law_plan (T : Txt K w mg A) : GF P w K mg base 4 "_law_plan" 2 (f__law_plan) := GF.bodyOf (k := 3) T.d__law_plan sc__law_plan (fun f cdv A0 outer s H vs Q E hr hgd => (by
  exact (gss_cons (gs_asg (vs := [3, 4]) (ge_tup (ga_cons (ge_D (ge_lst (ga_cons ge_str (ga_cons ge_str (ga_cons ge_str (ga_cons ge_str (ga_cons ge_str (ga_cons ge_str (ga_cons ge_str (ga_cons ge_str ga_nil)))))))))) (ga_cons (ge_call (GF.mono (g__law_take T) (by decide)) hr hgd (by rfl) (ga_cons (ge_var 0) (ga_cons ge_int ga_nil))) ga_nil))) (gg_tup rfl (ggs_cons (gg_name (i := 3) sc__law_plan.nd rfl (.inr rfl)) (ggs_cons (gg_name (i := 4) sc__law_plan.nd rfl (.inr rfl)) ggs_nil))))
    (gss_cons (gs_set (i := 2) sc__law_plan.nd rfl (.inl rfl) (ge_cb cg_sortS (by rfl) T.n_sorted (by decide +kernel) (ga_cons (ge_lc (own := [("_law_turn", 5)]) rfl sc__law_plan.nd (gi_range1 (by rfl) T.n_range (ga_cons (ge_var 1) ga_nil)) (blkOk_by (own := [("_law_turn", 5)]) (N := N__law_plan) (sc := defScope s__law_plan) (by decide +kernel)) (fun _ _ _ _ _ => (gg_name (i := 5) sc__law_plan.nd rfl (.inl rfl))) (fun _ _ _ _ _ => gts_nil) (fun _ _ _ _ _ => (ge_ix (hu_of hr) (ge_var 3) (ge_op gop_mod (ge_op gop_add (ge_var 4) (ge_op gop_mulI ge_int (ge_var 5))) ge_int)))) ga_nil)))
    (gss_one (gs_ret (ge_ct cg_tuple (by rfl) T.n_tuple (by decide +kernel) (ga_cons (ge_lc (own := [("_law_name", 6)]) rfl sc__law_plan.nd (gi_seq (ge_var 2)) (blkOk_by (own := [("_law_name", 6)]) (N := N__law_plan) (sc := defScope s__law_plan) (by decide +kernel)) (fun _ _ _ _ _ => (gg_name (i := 6) sc__law_plan.nd rfl (.inl rfl))) (fun _ _ _ _ _ => gts_nil) (fun _ _ _ _ _ => (ge_tup (ga_cons (ge_var 6) (ga_cons (ge_call (GF.mono (g__law_columns T) (by decide)) hr hgd (by rfl) (ga_cons (ge_var 0) ga_nil)) ga_nil))))) ga_nil))))))))
abbrev s__law_worth : Stmt := topS 28
abbrev N__law_worth : List Str := ["_law_hand_here", "_law_kind", "_law_is_key", "_law_some"]
theorem sc__law_worth : FnScope N__law_worth ["_law_hand_here", "_law_kind", "_law_is_key"] (defScope s__law_worth) := ⟨rfl, rfl, rfl, by decide +kernel, rfl, by decide +kernel, by decide +kernel⟩
noncomputable def b__law_worth : M Fl := (mSeq (mSet 3 (mIf (bnd (mBin (gEq false) (mVar 1) (mC (.str "number"))) asB) (mLst (mCons (mC (.int 0)) (mCons (mC (.int 1)) (mCons (mC (.int 1000000000)) (mCons (mUn gNeg (mC (.int 1))) (mCons (mC (.int 2)) mNil)))))) (mLst (mCons (mC (.str "a")) (mCons (mC (.str "b")) (mCons (mC (.str "none")) (mCons (mC (.str "zz")) (mCons (mC (.str "put")) mNil)))))))) (mRet (mCall 2 f__law_pick (mCons (mVar 0) (mCons (mIf (bnd (mVar 2) asB) (mSl (mVar 3) (pur none) (bnd (mC (.int 4)) asI)) (mBin gAdd (mVar 3) (mLst (mCons (mC .non) mNil)))) mNil)))))
noncomputable def f__law_worth : Fn := runF 1 (b__law_worth)
theorem g__law_worth (T : Txt K w mg A) : GF P w K mg base 3 "_law_worth" 3 (f__law_worth) := GF.bodyOf (k := 2) T.d__law_worth sc__law_worth (fun f cdv A0 outer s H vs Q E hr hgd => (by
  exact (gss_cons (gs_set (i := 3) sc__law_worth.nd rfl (.inl rfl) (ge_ifExp (gt_cmp (gop_eq hr.units) (ge_var 1) ge_str) (ge_lst (ga_cons ge_int (ga_cons ge_int (ga_cons ge_int (ga_cons (ge_un gun_neg ge_int) (ga_cons ge_int ga_nil)))))) (ge_lst (ga_cons ge_str (ga_cons ge_str (ga_cons ge_str (ga_cons ge_str (ga_cons ge_str ga_nil))))))))
    (gss_one (gs_ret (ge_call (GF.mono (g__law_pick T) (by decide)) hr hgd (by rfl) (ga_cons (ge_var 0) (ga_cons (ge_ifExp (gt_val (ge_var 2)) (ge_slice (ge_var 3) go_none (go_some ge_int)) (ge_op gop_add (ge_var 3) (ge_lst (ga_cons ge_non ga_nil)))) ga_nil))))))))
abbrev s__law_check : Stmt := topS 29
abbrev N__law_check : List Str := ["_law_hand_here", "_law_columns_here", "_law_deep", "_law_way", "_law_name", "_law_kind", "_law_other", "_law_its", "_law_one", "_law_two"]
theorem sc__law_check : FnScope N__law_check ["_law_hand_here", "_law_columns_here", "_law_deep"] (defScope s__law_check) := ⟨rfl, rfl, rfl, by decide +kernel, rfl, by decide +kernel, by decide +kernel⟩
noncomputable def b__law_check (self : Fn) : M Fl := (mSeq (mAsg (gtTup 3 (gtCons (gtName 3) (gtCons (gtTup 2 (gtCons (gtName 4) (gtCons (gtName 5) gtNil))) (gtCons (gtTup 2 (gtCons (gtName 6) (gtCons (gtName 7) gtNil))) gtNil)))) (mTup (mCons (mCall 2 f__law_take (mCons (mVar 0) (mCons (mC (.int 6)) mNil))) (mCons (mCall 2 f__law_pick (mCons (mVar 0) (mCons (mVar 1) mNil))) (mCons (mCall 2 f__law_pick (mCons (mVar 0) (mCons (mVar 1) mNil))) mNil))))) (mSeq (mIfS (mAnd (bnd (mBin (gP fun x y => dLt y x) (mVar 2) (mC (.int 0))) asB) (bnd (mBin (gP dLt) (mVar 3) (mC (.int 3))) asB)) (mSeq (mPar2 8 9 (mCall 3 self (mCons (mVar 0) (mCons (mVar 1) (mCons (mBin (gP dSub) (mVar 2) (mC (.int 1))) mNil)))) (mCall 3 self (mCons (mVar 0) (mCons (mVar 1) (mCons (mC (.int 0)) mNil))))) (mRet (mBin gIx (mLst (mCons (mTup (mCons (mC (.str "not")) (mCons (mVar 8) mNil))) (mCons (mTup (mCons (mC (.str "and")) (mCons (mVar 8) (mCons (mVar 9) mNil)))) (mCons (mTup (mCons (mC (.str "or")) (mCons (mVar 9) (mCons (mVar 8) mNil)))) mNil)))) (mVar 3)))) mSkip) (mSeq (mIfS (mAnd (bnd (mBin (gEq false) (mVar 3) (mC (.int 3))) asB) (bnd (mBin (gEq false) (mVar 5) (mC (.str "number"))) asB)) (mRet (mTup (mCons (mC (.str "below")) (mCons (mVar 4) (mCons (mCall 2 f__law_pick (mCons (mVar 0) (mCons (mLst (mCons (mC (.int 1)) (mCons (mC (.int 0)) (mCons (mC (.int 2)) (mCons (mUn gNeg (mC (.int 1))) mNil))))) mNil))) mNil))))) mSkip) (mRet (mIf (mAnd (bnd (mBin (gEq false) (mVar 3) (mC (.int 4))) asB) (bnd (mBin (gEq false) (mVar 5) (mVar 7)) asB)) (mTup (mCons (mC (.str "like")) (mCons (mVar 4) (mCons (mVar 6) mNil)))) (mTup (mCons (mC (.str "is")) (mCons (mVar 4) (mCons (mCall 3 f__law_worth (mCons (mVar 0) (mCons (mVar 5) (mCons (mC (.bl false)) mNil)))) mNil)))))))))
noncomputable def f__law_check : Nat → Fn := recF 7 (b__law_check)
theorem g__law_check (T : Txt K w mg A) (n : Nat) : GF P w K mg base (3 + n + 1) "_law_check" 3 (f__law_check n) := GF.recOf T.d__law_check sc__law_check (fun n self S f cdv A0 outer s H vs Q E hr hgd => (by
  exact (gss_cons (gs_asg (vs := [3, 4, 5, 6, 7]) (ge_tup (ga_cons (ge_call (GF.mono (g__law_take T) (by omega)) hr hgd (by rfl) (ga_cons (ge_var 0) (ga_cons ge_int ga_nil))) (ga_cons (ge_call (GF.mono (g__law_pick T) (by omega)) hr hgd (by rfl) (ga_cons (ge_var 0) (ga_cons (ge_var 1) ga_nil))) (ga_cons (ge_call (GF.mono (g__law_pick T) (by omega)) hr hgd (by rfl) (ga_cons (ge_var 0) (ga_cons (ge_var 1) ga_nil))) ga_nil)))) (gg_tup rfl (ggs_cons (gg_name (i := 3) sc__law_check.nd rfl (.inl rfl)) (ggs_cons (gg_tup rfl (ggs_cons (gg_name (i := 4) sc__law_check.nd rfl (.inl rfl)) (ggs_cons (gg_name (i := 5) sc__law_check.nd rfl (.inl rfl)) ggs_nil))) (ggs_cons (gg_tup rfl (ggs_cons (gg_name (i := 6) sc__law_check.nd rfl (.inl rfl)) (ggs_cons (gg_name (i := 7) sc__law_check.nd rfl (.inl rfl)) ggs_nil))) ggs_nil)))))
    (gss_cons (gs_if (GW.gt (gw_and (gt_cmp gop_gt (ge_var 2) ge_int) (gw_and1 (gt_cmp gop_lt (ge_var 3) ge_int)))) (gss_cons (gs_par2 (i := 8) (j := 9) rfl sc__law_check.nd rfl rfl (by decide) rfl rfl (ge_call S hr hgd (by rfl) (ga_cons (ge_var 0) (ga_cons (ge_var 1) (ga_cons (ge_op gop_sub (ge_var 2) ge_int) ga_nil)))) (ge_call S hr hgd (by rfl) (ga_cons (ge_var 0) (ga_cons (ge_var 1) (ga_cons ge_int ga_nil)))) (by rfl))
    (gss_one (gs_ret (ge_ix (hu_of hr) (ge_lst (ga_cons (ge_tup (ga_cons ge_str (ga_cons (ge_var 8) ga_nil))) (ga_cons (ge_tup (ga_cons ge_str (ga_cons (ge_var 8) (ga_cons (ge_var 9) ga_nil)))) (ga_cons (ge_tup (ga_cons ge_str (ga_cons (ge_var 9) (ga_cons (ge_var 8) ga_nil)))) ga_nil)))) (ge_var 3))))) gss_nil)
    (gss_cons (gs_if (GW.gt (gw_and (gt_cmp (gop_eq hr.units) (ge_var 3) ge_int) (gw_and1 (gt_cmp (gop_eq hr.units) (ge_var 5) ge_str)))) (gss_one (gs_ret (ge_tup (ga_cons ge_str (ga_cons (ge_var 4) (ga_cons (ge_call (GF.mono (g__law_pick T) (by omega)) hr hgd (by rfl) (ga_cons (ge_var 0) (ga_cons (ge_lst (ga_cons ge_int (ga_cons ge_int (ga_cons ge_int (ga_cons (ge_un gun_neg ge_int) ga_nil))))) ga_nil))) ga_nil)))))) gss_nil)
    (gss_one (gs_ret (ge_ifExp (GW.gt (gw_and (gt_cmp (gop_eq hr.units) (ge_var 3) ge_int) (gw_and1 (gt_cmp (gop_eq hr.units) (ge_var 5) (ge_var 7))))) (ge_tup (ga_cons ge_str (ga_cons (ge_var 4) (ga_cons (ge_var 6) ga_nil)))) (ge_tup (ga_cons ge_str (ga_cons (ge_var 4) (ga_cons (ge_call (GF.mono (g__law_worth T) (by omega)) hr hgd (by rfl) (ga_cons (ge_var 0) (ga_cons (ge_var 5) (ga_cons ge_bl ga_nil)))) ga_nil)))))))))))) n
abbrev s__law_right : Stmt := topS 30
abbrev N__law_right : List Str := ["_law_hand_here", "_law_columns_here", "_law_some", "_law_check_here", "_law_way", "_law_names", "_law_name", "_law_kind"]
theorem sc__law_right : FnScope N__law_right ["_law_hand_here", "_law_columns_here"] (defScope s__law_right) := ⟨rfl, rfl, rfl, by decide +kernel, rfl, by decide +kernel, by decide +kernel⟩
noncomputable def b__law_right : M Fl := (mSeq (mPar2 4 5 (mCall 2 f__law_take (mCons (mVar 0) (mCons (mC (.int 6)) mNil))) (mLc [6, 7] (gtTup 2 (gtCons (gtName 6) (gtCons (gtName 7) gtNil))) (mSrc (mVar 1)) (pur true) (mVar 6))) (mSeq (mIfS (bnd (mBin (gEq false) (mVar 4) (mC (.int 0))) asB) (mRet (mC .non)) mSkip) (mSeq (mSet 2 (bnd (mCons (mLc [6] (gtName 6) (mSrc (mVar 5)) (bnd (mBin (gP fun x y => dLt y x) (mCall 2 f__law_take (mCons (mVar 0) (mCons (mC (.int 3)) mNil))) (mC (.int 0))) asB) (mVar 6)) mNil) (g1 gTuple))) (mSeq (mSet 3 (mIf (bnd (mBin (gP dLt) (mVar 4) (mC (.int 4))) asB) (mC .non) (mCall 3 (f__law_check 3) (mCons (mVar 0) (mCons (mVar 1) (mCons (mC (.int 1)) mNil)))))) (mRet (mTup (mCons (mVar 3) (mCons (mIf (mOr (bnd (mBin (gP dLt) (mVar 4) (mC (.int 3))) asB) (bnd (mBin (gEq false) (mVar 4) (mC (.int 5))) asB)) (bnd (mCons (mVar 5) mNil) (g1 gTuple)) (mVar 2)) mNil))))))))
noncomputable def f__law_right : Fn := runF 6 (b__law_right)
theorem g__law_right (T : Txt K w mg A) : GF P w K mg base 8 "_law_right" 2 (f__law_right) := GF.bodyOf (k := 7) T.d__law_right sc__law_right (fun f cdv A0 outer s H vs Q E hr hgd => (by
  exact (gss_cons (gs_par2 (i := 4) (j := 5) rfl sc__law_right.nd rfl rfl (by decide) rfl rfl (ge_call (GF.mono (g__law_take T) (by decide)) hr hgd (by rfl) (ga_cons (ge_var 0) (ga_cons ge_int ga_nil))) (ge_lc (own := [("_law_name", 6), ("_law_kind", 7)]) rfl sc__law_right.nd (gi_seq (ge_var 1)) (blkOk_by (own := [("_law_name", 6), ("_law_kind", 7)]) (N := N__law_right) (sc := defScope s__law_right) (by decide +kernel)) (fun _ _ _ _ _ => (gg_tup rfl (ggs_cons (gg_name (i := 6) sc__law_right.nd rfl (.inl rfl)) (ggs_cons (gg_name (i := 7) sc__law_right.nd rfl (.inl rfl)) ggs_nil)))) (fun _ _ _ _ _ => gts_nil) (fun _ _ _ _ _ => (ge_var 6))) (by rfl))
    (gss_cons (gs_if (gt_cmp (gop_eq hr.units) (ge_var 4) ge_int) (gss_one (gs_ret ge_non)) gss_nil)
    (gss_cons (gs_set (i := 2) sc__law_right.nd rfl (.inl rfl) (ge_ct cg_tuple (by rfl) T.n_tuple (by decide +kernel) (ga_cons (ge_lc (own := [("_law_name", 6)]) rfl sc__law_right.nd (gi_seq (ge_var 5)) (blkOk_by (own := [("_law_name", 6)]) (N := N__law_right) (sc := defScope s__law_right) (by decide +kernel)) (fun _ _ _ _ _ => (gg_name (i := 6) sc__law_right.nd rfl (.inl rfl))) (fun _ _ _ _ _ => (gts_one (gt_cmp gop_gt (ge_call (GF.mono (g__law_take T) (by decide)) hr hgd (by rfl) (ga_cons (ge_var 0) (ga_cons ge_int ga_nil))) ge_int))) (fun _ _ _ _ _ => (ge_var 6))) ga_nil)))
    (gss_cons (gs_set (i := 3) sc__law_right.nd rfl (.inl rfl) (ge_ifExp (gt_cmp gop_lt (ge_var 4) ge_int) ge_non (ge_call (GF.mono (g__law_check T 3) (by decide)) hr hgd (by rfl) (ga_cons (ge_var 0) (ga_cons (ge_var 1) (ga_cons ge_int ga_nil))))))
    (gss_one (gs_ret (ge_tup (ga_cons (ge_var 3) (ga_cons (ge_ifExp (GW.gt (gw_or (gt_cmp gop_lt (ge_var 4) ge_int) (gw_or1 (gt_cmp (gop_eq hr.units) (ge_var 4) ge_int)))) (ge_ct cg_tuple (by rfl) T.n_tuple (by decide +kernel) (ga_cons (ge_var 5) ga_nil)) (ge_var 2)) ga_nil)))))))))))
abbrev s__law_fits : Stmt := topS 31
abbrev N__law_fits : List Str := ["_law_worth_here", "_law_kind"]
theorem sc__law_fits : FnScope N__law_fits ["_law_worth_here", "_law_kind"] (defScope s__law_fits) := ⟨rfl, rfl, rfl, by decide +kernel, rfl, by decide +kernel, by decide +kernel⟩
noncomputable def b__law_fits : M Fl := (mSeq (mIfS (bnd (mBin (gIsN false) (mVar 0) (mC .non)) asB) (mRet (mC (.bl true))) mSkip) (mSeq (mIfS (bnd (mBin (gEq false) (mVar 1) (mC (.str "number"))) asB) (mRet (mAndV (mIsi .int (mVar 0)) (mAndV (mNotV (mIsi .bool (mVar 0))) (mBin (gP dLe) (bnd (mCons (mVar 0) mNil) (g1 gAbs)) (mBin (gP dPow) (mC (.int 10)) (mC (.int 9))))))) mSkip) (mRet (mAndV (mIsi .str (mVar 0)) (mAndV (mChain (gP dLe) (gP dLe) (mC (.int 1)) (bnd (mCons (mVar 0) mNil) (g1 gLen)) (mC (.int 8))) (mBin (gEq false) (mMth "str" gStripC (mVar 0) (mCons (mC (.str "abcdefghijklmnopqrstuvwxyz")) mNil)) (mC (.str ""))))))))
noncomputable def f__law_fits : Fn := runF 0 (b__law_fits)
theorem g__law_fits (T : Txt K w mg A) : GF P w K mg base 1 "_law_fits" 2 (f__law_fits) := GF.bodyOf (k := 0) T.d__law_fits sc__law_fits (fun f cdv A0 outer s H vs Q E hr hgd => (by
  exact (gss_cons (gs_if (gt_cmp gop_isN (ge_var 0) ge_non) (gss_one (gs_ret ge_bl)) gss_nil)
    (gss_cons (gs_if (gt_cmp (gop_eq hr.units) (ge_var 1) ge_str) (gss_one (gs_ret (ge_and (ge_isi .int (by rfl) T.n_isinstance (by rfl) T.n_int (by decide +kernel) (ge_var 0)) (ge_and (ge_not (ge_isi .bool (by rfl) T.n_isinstance (by rfl) T.n_bool (by decide +kernel) (ge_var 0))) (ge_one (ge_cmp gop_le (ge_cb cg_abs (by rfl) T.n_abs (by decide +kernel) (ga_cons (ge_var 0) ga_nil)) (ge_op gop_pow ge_int ge_int))))))) gss_nil)
    (gss_one (gs_ret (ge_and (ge_isi .str (by rfl) T.n_isinstance (by rfl) T.n_str (by decide +kernel) (ge_var 0)) (ge_and (ge_chain gop_le gop_le ge_int (ge_cb cg_len (by rfl) T.n_len PySem.boot_len (ga_cons (ge_var 0) ga_nil)) ge_int) (ge_one (ge_cmp (gop_eq hr.units) (ge_m PySem.F.plainAttrs_str PySem.F.slot_str_strip PySem.F.type_str_strip mg_stripC (ge_var 0) (ga_cons ge_str ga_nil)) ge_str))))))))))
abbrev s__law_is_check : Stmt := topS 32
abbrev N__law_is_check : List Str := ["_law_columns_here", "_law_thing", "_law_word", "_law_parts", "_law_kinds", "_law_kind", "_law_worth_here", "_law_part"]
theorem sc__law_is_check : FnScope N__law_is_check ["_law_columns_here", "_law_thing"] (defScope s__law_is_check) := ⟨rfl, rfl, rfl, by decide +kernel, rfl, by decide +kernel, by decide +kernel⟩
noncomputable def b__law_is_check (self : Fn) : M Fl := (mSeq (mIfS (mOr (mNot (bnd (mIsi .tuple (mVar 1)) asB)) (mOr (bnd (mBin (gP dLt) (bnd (mCons (mVar 1) mNil) (g1 gLen)) (mC (.int 2))) asB) (mNot (bnd (mIsi .str (mBin gIx (mVar 1) (mC (.int 0)))) asB)))) (mRet (mC (.bl false))) mSkip) (mSeq (mPar3 2 3 4 (mBin gIx (mVar 1) (mC (.int 0))) (mSl (mVar 1) (bnd (mC (.int 1)) asI) (pur none)) (bnd (mCons (mVar 0) mNil) (g1 gDictT))) (mSeq (mIfS (bnd (mBin (gIn false) (mVar 2) (mTup (mCons (mC (.str "not")) (mCons (mC (.str "and")) (mCons (mC (.str "or")) mNil))))) asB) (mRet (mAndV (mBin (gEq false) (bnd (mCons (mVar 3) mNil) (g1 gLen)) (mBin gIx (mLst (mCons (mC (.int 2)) (mCons (mC (.int 1)) mNil))) (bnd (mCons (mBin (gEq false) (mVar 2) (mC (.str "not"))) mNil) (g1 gInt)))) (bnd (mCons (mLc [7] (gtName 7) (mSrc (mVar 3)) (pur true) (mCall 2 self (mCons (mVar 0) (mCons (mVar 7) mNil)))) mNil) (g1 (gBls fun bs => bs.all id))))) mSkip) (mSeq (mIfS (mOr (bnd (mBin (gIn true) (mVar 2) (mTup (mCons (mC (.str "is")) (mCons (mC (.str "below")) (mCons (mC (.str "like")) mNil))))) asB) (mOr (bnd (mBin (gEq true) (bnd (mCons (mVar 3) mNil) (g1 gLen)) (mC (.int 2))) asB) (mOr (mNot (bnd (mIsi .str (mBin gIx (mVar 3) (mC (.int 0)))) asB)) (bnd (mBin (gInD true) (mBin gIx (mVar 3) (mC (.int 0))) (mVar 4)) asB)))) (mRet (mC (.bl false))) mSkip) (mSeq (mPar2 5 6 (mBin gIx (mVar 4) (mBin gIx (mVar 3) (mC (.int 0)))) (mBin gIx (mVar 3) (mC (.int 1)))) (mSeq (mIfS (bnd (mBin (gEq false) (mVar 2) (mC (.str "like"))) asB) (mRet (mAndV (mIsi .str (mVar 6)) (mBin (gEq false) (mGet1 (mVar 4) (mVar 6)) (mVar 5)))) mSkip) (mRet (mAndV (mCall 2 f__law_fits (mCons (mVar 6) (mCons (mVar 5) mNil))) (mOrV (mBin (gEq false) (mVar 2) (mC (.str "is"))) (mAndV (mBin (gEq false) (mVar 5) (mC (.str "number"))) (mBin (gIsN true) (mVar 6) (mC .non))))))))))))
noncomputable def f__law_is_check : Nat → Fn := recF 6 (b__law_is_check)
theorem g__law_is_check (T : Txt K w mg A) (n : Nat) : GF P w K mg base (1 + n + 1) "_law_is_check" 2 (f__law_is_check n) := GF.recOf T.d__law_is_check sc__law_is_check (fun n self S f cdv A0 outer s H vs Q E hr hgd => (by
  exact (gss_cons (gs_if (GW.gt (gw_or (gt_not (gt_val (ge_isi .tuple (by rfl) T.n_isinstance (by rfl) T.n_tuple (by decide +kernel) (ge_var 1)))) (gw_or (gt_cmp gop_lt (ge_cb cg_len (by rfl) T.n_len PySem.boot_len (ga_cons (ge_var 1) ga_nil)) ge_int) (gw_or1 (gt_not (gt_val (ge_isi .str (by rfl) T.n_isinstance (by rfl) T.n_str (by decide +kernel) (ge_ix (hu_of hr) (ge_var 1) ge_int)))))))) (gss_one (gs_ret ge_bl)) gss_nil)
    (gss_cons (gs_par3 (i := 2) (j := 3) (l := 4) rfl sc__law_is_check.nd rfl rfl rfl (by decide) (by decide) (by decide) rfl rfl rfl (ge_ix (hu_of hr) (ge_var 1) ge_int) (ge_slice (ge_var 1) (go_some ge_int) go_none) (ge_ct (cg_dictT rfl) (by rfl) T.n_dict (by decide +kernel) (ga_cons (ge_var 0) ga_nil)) (by rfl))
    (gss_cons (gs_if (gt_cmp (gop_in hr.units) (ge_var 2) (ge_tup (ga_cons ge_str (ga_cons ge_str (ga_cons ge_str ga_nil))))) (gss_one (gs_ret (ge_and (ge_cmp (gop_eq hr.units) (ge_cb cg_len (by rfl) T.n_len PySem.boot_len (ga_cons (ge_var 3) ga_nil)) (ge_ix (hu_of hr) (ge_lst (ga_cons ge_int (ga_cons ge_int ga_nil))) (ge_ct cg_int (by rfl) T.n_int (by decide +kernel) (ga_cons (ge_cmp (gop_eq hr.units) (ge_var 2) ge_str) ga_nil)))) (ge_one (ge_cb (cg_all rfl) (by rfl) T.n_all (by decide +kernel) (ga_cons (ge_lc (own := [("_law_part", 7)]) rfl sc__law_is_check.nd (gi_seq (ge_var 3)) (blkOk_by (own := [("_law_part", 7)]) (N := N__law_is_check) (sc := defScope s__law_is_check) (by decide +kernel)) (fun _ _ _ _ _ => (gg_name (i := 7) sc__law_is_check.nd rfl (.inl rfl))) (fun _ _ _ _ _ => gts_nil) (fun _ _ _ _ _ => (ge_call S hr hgd (by rfl) (ga_cons (ge_var 0) (ga_cons (ge_var 7) ga_nil))))) ga_nil)))))) gss_nil)
    (gss_cons (gs_if (GW.gt (gw_or (gt_cmp (gop_notIn hr.units) (ge_var 2) (ge_tup (ga_cons ge_str (ga_cons ge_str (ga_cons ge_str ga_nil))))) (gw_or (gt_cmp (gop_ne hr.units) (ge_cb cg_len (by rfl) T.n_len PySem.boot_len (ga_cons (ge_var 3) ga_nil)) ge_int) (gw_or (gt_not (gt_val (ge_isi .str (by rfl) T.n_isinstance (by rfl) T.n_str (by decide +kernel) (ge_ix (hu_of hr) (ge_var 3) ge_int)))) (gw_or1 (gt_dnin (hu_of hr) (ge_ix (hu_of hr) (ge_var 3) ge_int) (ge_var 4))))))) (gss_one (gs_ret ge_bl)) gss_nil)
    (gss_cons (gs_par2 (i := 5) (j := 6) rfl sc__law_is_check.nd rfl rfl (by decide) rfl rfl (ge_ix (hu_of hr) (ge_var 4) (ge_ix (hu_of hr) (ge_var 3) ge_int)) (ge_ix (hu_of hr) (ge_var 3) ge_int) (by rfl))
    (gss_cons (gs_if (gt_cmp (gop_eq hr.units) (ge_var 2) ge_str) (gss_one (gs_ret (ge_and (ge_isi .str (by rfl) T.n_isinstance (by rfl) T.n_str (by decide +kernel) (ge_var 6)) (ge_one (ge_cmp (gop_eq hr.units) (ge_get1 (hu_of hr) (ge_var 4) (ge_var 6)) (ge_var 5)))))) gss_nil)
    (gss_one (gs_ret (ge_and (ge_call (GF.mono (g__law_fits T) (by omega)) hr hgd (by rfl) (ga_cons (ge_var 6) (ga_cons (ge_var 5) ga_nil))) (ge_one (ge_or (ge_cmp (gop_eq hr.units) (ge_var 2) ge_str) (ge_one (ge_and (ge_cmp (gop_eq hr.units) (ge_var 5) ge_str) (ge_one (ge_cmp gop_notN (ge_var 6) ge_non))))))))))))))))) n
abbrev s__law_is_right : Stmt := topS 33
abbrev N__law_is_right : List Str := ["_law_plan_here", "_law_table", "_law_thing", "_law_columns_here", "_law_names", "_law_spots", "_law_name", "_law_kind", "_law_one"]
theorem sc__law_is_right : FnScope N__law_is_right ["_law_plan_here", "_law_table", "_law_thing"] (defScope s__law_is_right) := ⟨rfl, rfl, rfl, by decide +kernel, rfl, by decide +kernel, by decide +kernel⟩
noncomputable def b__law_is_right : M Fl := (mSeq (mIfS (mOr (mNot (bnd (mIsi .str (mVar 1)) asB)) (bnd (mBin (gInD true) (mVar 1) (bnd (mCons (mVar 0) mNil) (g1 gDictT))) asB)) (mRet (mC (.bl false))) mSkip) (mSeq (mIfS (bnd (mBin (gIsN false) (mVar 2) (mC .non)) asB) (mRet (mC (.bl true))) mSkip) (mSeq (mIfS (mOr (mNot (bnd (mIsi .tuple (mVar 2)) asB)) (mOr (bnd (mBin (gEq true) (bnd (mCons (mVar 2) mNil) (g1 gLen)) (mC (.int 2))) asB) (mNot (bnd (mIsi .tuple (mBin gIx (mVar 2) (mC (.int 1)))) asB)))) (mRet (mC (.bl false))) mSkip) (mSeq (mSet 3 (mBin gIx (bnd (mCons (mVar 0) mNil) (g1 gDictT)) (mVar 1))) (mSeq (mSet 4 (mLc [6, 7] (gtTup 2 (gtCons (gtName 6) (gtCons (gtName 7) gtNil))) (mSrc (mVar 3)) (pur true) (mVar 6))) (mSeq (mIfS (mNot (bnd (bnd (mCons (mLc [8] (gtName 8) (mSrc (mBin gIx (mVar 2) (mC (.int 1)))) (pur true) (mAndV (mIsi .str (mVar 8)) (mBin (gIn false) (mVar 8) (mVar 4)))) mNil) (g1 (gBls fun bs => bs.all id))) asB)) (mRet (mC (.bl false))) mSkip) (mSeq (mSet 5 (mLc [8] (gtName 8) (mSrc (mBin gIx (mVar 2) (mC (.int 1)))) (pur true) (mMth "list" gIndex (mVar 4) (mCons (mVar 8) mNil)))) (mRet (mAndV (mBin (gEq false) (mVar 5) (bnd (mVar 5) gSortSet)) (mOrV (mBin (gIsN false) (mBin gIx (mVar 2) (mC (.int 0))) (mC .non)) (mCall 2 (f__law_is_check 60) (mCons (mVar 3) (mCons (mBin gIx (mVar 2) (mC (.int 0))) mNil)))))))))))))
noncomputable def f__law_is_right : Fn := runF 6 (b__law_is_right)
theorem g__law_is_right (T : Txt K w mg A) : GF P w K mg base 63 "_law_is_right" 3 (f__law_is_right) := GF.bodyOf (k := 62) T.d__law_is_right sc__law_is_right (fun f cdv A0 outer s H vs Q E hr hgd => (by
  exact (gss_cons (gs_if (GW.gt (gw_or (gt_not (gt_val (ge_isi .str (by rfl) T.n_isinstance (by rfl) T.n_str (by decide +kernel) (ge_var 1)))) (gw_or1 (gt_dnin (hu_of hr) (ge_var 1) (ge_ct (cg_dictT rfl) (by rfl) T.n_dict (by decide +kernel) (ga_cons (ge_var 0) ga_nil)))))) (gss_one (gs_ret ge_bl)) gss_nil)
    (gss_cons (gs_if (gt_cmp gop_isN (ge_var 2) ge_non) (gss_one (gs_ret ge_bl)) gss_nil)
    (gss_cons (gs_if (GW.gt (gw_or (gt_not (gt_val (ge_isi .tuple (by rfl) T.n_isinstance (by rfl) T.n_tuple (by decide +kernel) (ge_var 2)))) (gw_or (gt_cmp (gop_ne hr.units) (ge_cb cg_len (by rfl) T.n_len PySem.boot_len (ga_cons (ge_var 2) ga_nil)) ge_int) (gw_or1 (gt_not (gt_val (ge_isi .tuple (by rfl) T.n_isinstance (by rfl) T.n_tuple (by decide +kernel) (ge_ix (hu_of hr) (ge_var 2) ge_int)))))))) (gss_one (gs_ret ge_bl)) gss_nil)
    (gss_cons (gs_set (i := 3) sc__law_is_right.nd rfl (.inl rfl) (ge_ix (hu_of hr) (ge_ct (cg_dictT rfl) (by rfl) T.n_dict (by decide +kernel) (ga_cons (ge_var 0) ga_nil)) (ge_var 1)))
    (gss_cons (gs_set (i := 4) sc__law_is_right.nd rfl (.inr rfl) (ge_lc (own := [("_law_name", 6), ("_law_kind", 7)]) rfl sc__law_is_right.nd (gi_seq (ge_var 3)) (blkOk_by (own := [("_law_name", 6), ("_law_kind", 7)]) (N := N__law_is_right) (sc := defScope s__law_is_right) (by decide +kernel)) (fun _ _ _ _ _ => (gg_tup rfl (ggs_cons (gg_name (i := 6) sc__law_is_right.nd rfl (.inl rfl)) (ggs_cons (gg_name (i := 7) sc__law_is_right.nd rfl (.inl rfl)) ggs_nil)))) (fun _ _ _ _ _ => gts_nil) (fun _ _ _ _ _ => (ge_var 6))))
    (gss_cons (gs_if (gt_not (gt_val (ge_cb (cg_all rfl) (by rfl) T.n_all (by decide +kernel) (ga_cons (ge_lc (own := [("_law_one", 8)]) rfl sc__law_is_right.nd (gi_seq (ge_ix (hu_of hr) (ge_var 2) ge_int)) (blkOk_by (own := [("_law_one", 8)]) (N := N__law_is_right) (sc := defScope s__law_is_right) (by decide +kernel)) (fun _ _ _ _ _ => (gg_name (i := 8) sc__law_is_right.nd rfl (.inl rfl))) (fun _ _ _ _ _ => gts_nil) (fun _ _ _ _ _ => (ge_and (ge_isi .str (by rfl) T.n_isinstance (by rfl) T.n_str (by decide +kernel) (ge_var 8)) (ge_one (ge_cmp (gop_in hr.units) (ge_var 8) (ge_var 4)))))) ga_nil)))) (gss_one (gs_ret ge_bl)) gss_nil)
    (gss_cons (gs_setLc (i := 5) (own := [("_law_one", 8)]) rfl sc__law_is_right.nd rfl rfl (sw_true rfl rfl rfl (by decide +kernel)) (gi_seq (ge_ix (hu_of hr) (ge_var 2) ge_int)) (blkOk_by (own := [("_law_one", 8)]) (N := N__law_is_right) (sc := defScope s__law_is_right) (by decide +kernel)) (fun _ _ _ _ _ => (gg_name (i := 8) sc__law_is_right.nd rfl (.inl rfl))) (fun _ _ _ _ _ => gts_nil) (fun _ _ _ _ _ => (ge_m PySem.F.plainAttrs_list PySem.F.slot_list_index PySem.F.type_list_index mg_index (ge_var 4) (ga_cons (ge_var 8) ga_nil))))
    (gss_one (gs_ret (ge_and (ge_cmp (gop_eq hr.units) (ge_var 5) (ge_sortSet rfl (by rfl) T.n_sorted (by rfl) T.n_set (ge_var 5))) (ge_one (ge_or (ge_cmp gop_isN (ge_ix (hu_of hr) (ge_var 2) ge_int) ge_non) (ge_one (ge_call (GF.mono (g__law_is_check T 60) (by decide)) hr hgd (by rfl) (ga_cons (ge_var 3) (ga_cons (ge_ix (hu_of hr) (ge_var 2) ge_int) ga_nil))))))))))))))))))
abbrev s__law_odd : Stmt := topS 34
abbrev N__law_odd : List Str := ["_law_hand_here", "_law_some", "_law_thing", "_law_turn"]
theorem sc__law_odd : FnScope N__law_odd ["_law_hand_here"] (defScope s__law_odd) := ⟨rfl, rfl, rfl, by decide +kernel, rfl, by decide +kernel, by decide +kernel⟩
noncomputable def b__law_odd : M Fl := (mSeq (mSet 1 (mLst (mCons (mC .non) (mCons (mC (.bl true)) (mCons (mC (.bl false)) (mCons (mC (.int 0)) (mCons (mC (.str "")) (mCons (mC (.str "k")) (mCons (mC (.str "none")) (mCons (mTup mNil) (mCons (mD (mLst mNil)) (mCons (mD mDn) (mCons (mTup (mCons (mC .non) mNil)) (mCons (mTup (mCons (mC .non) (mCons (mC .non) mNil))) (mCons (mTup (mCons (mC (.str "is")) (mCons (mC (.str "k")) (mCons (mC .non) mNil)))) (mCons (mTup (mCons (mTup mNil) (mCons (mTup mNil) mNil))) mNil)))))))))))))))) (mSeq (mSet 2 (mCall 2 f__law_pick (mCons (mVar 0) (mCons (mVar 1) mNil)))) (mSeq (mFor (gtName 3) (bnd (mCons (mCall 2 f__law_pick (mCons (mVar 0) (mCons (mLst (mCons (mC (.int 0)) (mCons (mC (.int 0)) (mCons (mC (.int 1)) (mCons (mC (.int 15)) mNil))))) mNil))) mNil) srcR1) (mSet 2 (mCall 2 f__law_pick (mCons (mVar 0) (mCons (mLst (mCons (mTup (mCons (mVar 2) mNil)) (mCons (mD (mLst (mCons (mVar 2) mNil))) (mCons (mD (mD1 "a" (mVar 2))) (mCons (mTup (mCons (mVar 2) (mCons (mTup mNil) mNil))) mNil))))) mNil))))) (mRet (mVar 2)))))
noncomputable def f__law_odd : Fn := runF 3 (b__law_odd)
theorem g__law_odd (T : Txt K w mg A) : GF P w K mg base 3 "_law_odd" 1 (f__law_odd) := GF.bodyOf (k := 2) T.d__law_odd sc__law_odd (fun f cdv A0 outer s H vs Q E hr hgd => (by
  exact (gss_cons (gs_set (i := 1) sc__law_odd.nd rfl (.inl rfl) (ge_lst (ga_cons ge_non (ga_cons ge_bl (ga_cons ge_bl (ga_cons ge_int (ga_cons ge_str (ga_cons ge_str (ga_cons ge_str (ga_cons (ge_tup ga_nil) (ga_cons (ge_D (ge_lst ga_nil)) (ga_cons (ge_D ge_dn) (ga_cons (ge_tup (ga_cons ge_non ga_nil)) (ga_cons (ge_tup (ga_cons ge_non (ga_cons ge_non ga_nil))) (ga_cons (ge_tup (ga_cons ge_str (ga_cons ge_str (ga_cons ge_non ga_nil)))) (ga_cons (ge_tup (ga_cons (ge_tup ga_nil) (ga_cons (ge_tup ga_nil) ga_nil))) ga_nil))))))))))))))))
    (gss_cons (gs_set (i := 2) sc__law_odd.nd rfl (.inl rfl) (ge_call (GF.mono (g__law_pick T) (by decide)) hr hgd (by rfl) (ga_cons (ge_var 0) (ga_cons (ge_var 1) ga_nil))))
    (gss_cons (gs_for (vs := [3]) PassesOwn.never rfl (gi_range1 (by rfl) T.n_range (ga_cons (ge_call (GF.mono (g__law_pick T) (by decide)) hr hgd (by rfl) (ga_cons (ge_var 0) (ga_cons (ge_lst (ga_cons ge_int (ga_cons ge_int (ga_cons ge_int (ga_cons ge_int ga_nil))))) ga_nil))) ga_nil)) (gg_name (i := 3) sc__law_odd.nd rfl (.inl rfl)) (gss_one (gs_set (i := 2) sc__law_odd.nd rfl (.inl rfl) (ge_call (GF.mono (g__law_pick T) (by decide)) hr hgd (by rfl) (ga_cons (ge_var 0) (ga_cons (ge_lst (ga_cons (ge_tup (ga_cons (ge_var 2) ga_nil)) (ga_cons (ge_D (ge_lst (ga_cons (ge_var 2) ga_nil))) (ga_cons (ge_D (ge_d1 (ge_var 2))) (ga_cons (ge_tup (ga_cons (ge_var 2) (ga_cons (ge_tup ga_nil) ga_nil))) ga_nil))))) ga_nil))))))
    (gss_one (gs_ret (ge_var 2))))))))
abbrev s__law_bent : Stmt := topS 35
abbrev N__law_bent : List Str := ["_law_hand_here", "_law_right_here", "_law_some", "_law_checks", "_law_check_here", "_law_names", "_law_at", "_law_odd_here", "_law_one"]
theorem sc__law_bent : FnScope N__law_bent ["_law_hand_here", "_law_right_here"] (defScope s__law_bent) := ⟨rfl, rfl, rfl, by decide +kernel, rfl, by decide +kernel, by decide +kernel⟩
noncomputable def b__law_bent : M Fl := (mSeq (mIfS (bnd (mBin (gIsN false) (mVar 1) (mC .non)) asB) (mRet (mCall 1 f__law_odd (mCons (mVar 0) mNil))) mSkip) (mSeq (mAsg (gtTup 2 (gtCons (gtName 4) (gtCons (gtName 5) gtNil))) (mVar 1)) (mSeq (mPar2 6 7 (mCall 2 f__law_take (mCons (mVar 0) (mCons (mBin gAdd (bnd (mCons (mVar 5) mNil) (g1 gLen)) (mC (.int 1))) mNil))) (mCall 1 f__law_odd (mCons (mVar 0) mNil))) (mSeq (mSet 2 (mLst (mCons (bnd (mVar 5) gBack) (mCons (mD (mBin gAdd (mVar 5) (mSl (mVar 5) (pur none) (bnd (mC (.int 1)) asI)))) (mCons (mD (mBin gAdd (mSl (mVar 5) (pur none) (bnd (mVar 6) asI)) (mSl (mVar 5) (bnd (mBin gAdd (mVar 6) (mC (.int 1))) asI) (pur none)))) (mCons (mD (bnd (mCons (mVar 5) mNil) (g1 gList))) (mCons (mD (mBin gAdd (mBin gAdd (mSl (mVar 5) (pur none) (bnd (mVar 6) asI)) (mTup (mCons (mVar 7) mNil))) (mSl (mVar 5) (bnd (mVar 6) asI) (pur none)))) mNil))))))) (mSeq (mSet 2 (mBin gAdd (mLc [8] (gtName 8) (mSrc (mVar 2)) (pur true) (mTup (mCons (mVar 4) (mCons (mVar 8) mNil)))) (mLst (mCons (mBin gAdd (mVar 1) (mTup (mCons (mC (.int 0)) mNil))) (mCons (mD (mSl (mVar 1) (pur none) (bnd (mC (.int 1)) asI))) (mCons (mD (bnd (mCons (mVar 1) mNil) (g1 gList))) (mCons (mTup (mCons (mVar 5) (mCons (mVar 4) mNil))) mNil))))))) (mSeq (mSet 3 (mLst (mCons (mVar 7) (mCons (mTup (mCons (mC (.str "not")) (mCons (mVar 4) mNil))) (mCons (mTup (mCons (mC (.str "is")) (mCons (mC (.str "k")) (mCons (mVar 7) mNil)))) (mCons (mTup (mCons (mC (.str "below")) (mCons (mC (.str "k")) (mCons (mC .non) mNil)))) (mCons (mTup (mCons (mC (.str "like")) (mCons (mC (.str "k")) (mCons (mC (.str "x")) mNil)))) (mCons (mTup (mCons (mC (.str "is")) (mCons (mC (.str "x")) mNil))) mNil)))))))) (mRet (mCall 2 f__law_pick (mCons (mVar 0) (mCons (mBin gAdd (mVar 2) (mLc [8] (gtName 8) (mSrc (mVar 3)) (pur true) (mTup (mCons (mVar 8) (mCons (mVar 5) mNil))))) mNil))))))))))
noncomputable def f__law_bent : Fn := runF 7 (b__law_bent)
theorem g__law_bent (T : Txt K w mg A) : GF P w K mg base 4 "_law_bent" 2 (f__law_bent) := GF.bodyOf (k := 3) T.d__law_bent sc__law_bent (fun f cdv A0 outer s H vs Q E hr hgd => (by
  exact (gss_cons (gs_if (gt_cmp gop_isN (ge_var 1) ge_non) (gss_one (gs_ret (ge_call (GF.mono (g__law_odd T) (by decide)) hr hgd (by rfl) (ga_cons (ge_var 0) ga_nil)))) gss_nil)
    (gss_cons (gs_asg (vs := [4, 5]) (ge_var 1) (gg_tup rfl (ggs_cons (gg_name (i := 4) sc__law_bent.nd rfl (.inr rfl)) (ggs_cons (gg_name (i := 5) sc__law_bent.nd rfl (.inr rfl)) ggs_nil))))
    (gss_cons (gs_par2 (i := 6) (j := 7) rfl sc__law_bent.nd rfl rfl (by decide) rfl rfl (ge_call (GF.mono (g__law_take T) (by decide)) hr hgd (by rfl) (ga_cons (ge_var 0) (ga_cons (ge_op gop_add (ge_cb cg_len (by rfl) T.n_len PySem.boot_len (ga_cons (ge_var 5) ga_nil)) ge_int) ga_nil))) (ge_call (GF.mono (g__law_odd T) (by decide)) hr hgd (by rfl) (ga_cons (ge_var 0) ga_nil)) (by rfl))
    (gss_cons (gs_set (i := 2) sc__law_bent.nd rfl (.inl rfl) (ge_lst (ga_cons (ge_backT (ge_var 5)) (ga_cons (ge_D (ge_op gop_add (ge_var 5) (ge_slice (ge_var 5) go_none (go_some ge_int)))) (ga_cons (ge_D (ge_op gop_add (ge_slice (ge_var 5) go_none (go_some (ge_var 6))) (ge_slice (ge_var 5) (go_some (ge_op gop_add (ge_var 6) ge_int)) go_none))) (ga_cons (ge_D (ge_ct cg_list (by rfl) T.n_list (by decide +kernel) (ga_cons (ge_var 5) ga_nil))) (ga_cons (ge_D (ge_op gop_add (ge_op gop_add (ge_slice (ge_var 5) go_none (go_some (ge_var 6))) (ge_tup (ga_cons (ge_var 7) ga_nil))) (ge_slice (ge_var 5) (go_some (ge_var 6)) go_none))) ga_nil)))))))
    (gss_cons (gs_set (i := 2) sc__law_bent.nd rfl (.inl rfl) (ge_op gop_add (ge_lc (own := [("_law_one", 8)]) rfl sc__law_bent.nd (gi_seq (ge_var 2)) (blkOk_by (own := [("_law_one", 8)]) (N := N__law_bent) (sc := defScope s__law_bent) (by decide +kernel)) (fun _ _ _ _ _ => (gg_name (i := 8) sc__law_bent.nd rfl (.inl rfl))) (fun _ _ _ _ _ => gts_nil) (fun _ _ _ _ _ => (ge_tup (ga_cons (ge_var 4) (ga_cons (ge_var 8) ga_nil))))) (ge_lst (ga_cons (ge_op gop_add (ge_var 1) (ge_tup (ga_cons ge_int ga_nil))) (ga_cons (ge_D (ge_slice (ge_var 1) go_none (go_some ge_int))) (ga_cons (ge_D (ge_ct cg_list (by rfl) T.n_list (by decide +kernel) (ga_cons (ge_var 1) ga_nil))) (ga_cons (ge_tup (ga_cons (ge_var 5) (ga_cons (ge_var 4) ga_nil))) ga_nil)))))))
    (gss_cons (gs_set (i := 3) sc__law_bent.nd rfl (.inl rfl) (ge_lst (ga_cons (ge_var 7) (ga_cons (ge_tup (ga_cons ge_str (ga_cons (ge_var 4) ga_nil))) (ga_cons (ge_tup (ga_cons ge_str (ga_cons ge_str (ga_cons (ge_var 7) ga_nil)))) (ga_cons (ge_tup (ga_cons ge_str (ga_cons ge_str (ga_cons ge_non ga_nil)))) (ga_cons (ge_tup (ga_cons ge_str (ga_cons ge_str (ga_cons ge_str ga_nil)))) (ga_cons (ge_tup (ga_cons ge_str (ga_cons ge_str ga_nil))) ga_nil))))))))
    (gss_one (gs_ret (ge_call (GF.mono (g__law_pick T) (by decide)) hr hgd (by rfl) (ga_cons (ge_var 0) (ga_cons (ge_op gop_add (ge_var 2) (ge_lc (own := [("_law_one", 8)]) rfl sc__law_bent.nd (gi_seq (ge_var 3)) (blkOk_by (own := [("_law_one", 8)]) (N := N__law_bent) (sc := defScope s__law_bent) (by decide +kernel)) (fun _ _ _ _ _ => (gg_name (i := 8) sc__law_bent.nd rfl (.inl rfl))) (fun _ _ _ _ _ => gts_nil) (fun _ _ _ _ _ => (ge_tup (ga_cons (ge_var 8) (ga_cons (ge_var 5) ga_nil)))))) ga_nil)))))))))))))
abbrev s_law : Stmt := topS 36
abbrev N_law : List Str := ["_law_script", "_law_k", "_law_hand_here", "_law_plan_here", "_law_kept", "_law_turn", "_law_right_here", "_law_table", "_law_thing", "_law_name", "_law_columns_here", "_law_where", "_law_heard"]
theorem sc_law : FnScope N_law ["_law_script"] (defScope s_law) := ⟨rfl, rfl, rfl, by decide +kernel, rfl, by decide +kernel, by decide +kernel⟩
noncomputable def b_law (A : FA) : M Fl := (mSeq (mFor (gtName 1) (bnd (mCons (mBin gAdd (mC (.int 1)) (bnd (mCons (mC (.int 4)) (mCons (bnd (mCons (mVar 0) mNil) (g1 gLen)) mNil)) (g2I min2))) mNil) srcR1) (mSeq (mSet 2 (mCall 2 f__law_hand (mCons (mVar 0) (mCons (mVar 1) mNil)))) (mSeq (mSet 3 (mCall 2 f__law_plan (mCons (mVar 2) (mCons (mBin gAdd (mC (.int 1)) (mCall 2 f__law_take (mCons (mVar 2) (mCons (mC (.int 3)) mNil)))) mNil)))) (mSeq (mSet 4 (bnd (mCons (mVar 3) mNil) (g1 gRepr))) (mSeq (mFor (gtName 5) (bnd (mCons (mC (.int 14)) mNil) srcR1) (mSeq (mAsg (gtTup 2 (gtCons (gtName 9) (gtCons (gtName 10) gtNil))) (mCall 2 f__law_pick (mCons (mVar 2) (mCons (mVar 3) mNil)))) (mSeq (mSet 6 (mCall 2 f__law_right (mCons (mVar 2) (mCons (mVar 10) mNil)))) (mSeq (mSet 7 (mCall 2 f__law_pick (mCons (mVar 2) (mCons (mLst (mCons (mVar 9) (mCons (mVar 9) (mCons (mBin gIx (mBin gIx (mVar 3) (mC (.int 0))) (mC (.int 0))) (mCons (mC (.str "nobody")) (mCons (mCall 1 f__law_odd (mCons (mVar 2) mNil)) (mCons (mVar 10) mNil))))))) mNil)))) (mFor (gtName 8) (mSrc (mTup (mCons (mVar 6) (mCons (mCall 2 f__law_bent (mCons (mVar 2) (mCons (mVar 6) mNil))) (mCons (mCall 2 f__law_bent (mCons (mVar 2) (mCons (mVar 6) mNil))) mNil))))) (mFor (gtName 11) (mSrc (mTup (mCons (mVar 9) (mCons (mVar 7) mNil)))) (mSeq (mSet 12 (mCall 3 (f_is_right A) (mCons (mVar 3) (mCons (mVar 11) (mCons (mVar 8) mNil))))) (mIfS (mOr (mNot (bnd (mIsi .bool (mVar 12)) asB)) (bnd (mBin (gEq true) (mVar 12) (mCall 3 f__law_is_right (mCons (mVar 3) (mCons (mVar 11) (mCons (mVar 8) mNil))))) asB)) (mRet (mC (.bl false))) mSkip)))))))) (mIfS (bnd (mBin (gEq true) (bnd (mCons (mVar 3) mNil) (g1 gRepr)) (mVar 4)) asB) (mRet (mC (.bl false))) mSkip)))))) (mRet (mC (.bl true))))
noncomputable def f_law (A : FA) : Fn := runF 12 (b_law A)
theorem ok_law (T : Txt K w mg A) {f : Addr} {fd : FuncData} (F : Fun K "law" "law" (topS 36) f fd) : FnG P w K mg base 127 f fd ["_law_script"] (spG K 1 (f_law A)) := fn_ok (k := 126) F sc_law (fun cdv A0 outer s H vs Q E hr hgd => (by
  exact (gss_cons (gs_for (vs := [1]) PassesOwn.never rfl (gi_range1 (by rfl) T.n_range (ga_cons (ge_op gop_add ge_int (ge_cb (cg_min2 rfl) (by rfl) T.n_min (by decide +kernel) (ga_cons ge_int (ga_cons (ge_cb cg_len (by rfl) T.n_len PySem.boot_len (ga_cons (ge_var 0) ga_nil)) ga_nil)))) ga_nil)) (gg_name (i := 1) sc_law.nd rfl (.inl rfl)) (gss_cons (gs_set (i := 2) sc_law.nd rfl (.inl rfl) (ge_call (GF.mono (g__law_hand T) (by decide)) hr hgd (by rfl) (ga_cons (ge_var 0) (ga_cons (ge_var 1) ga_nil))))
    (gss_cons (gs_set (i := 3) sc_law.nd rfl (.inl rfl) (ge_call (GF.mono (g__law_plan T) (by decide)) hr hgd (by rfl) (ga_cons (ge_var 2) (ga_cons (ge_op gop_add ge_int (ge_call (GF.mono (g__law_take T) (by decide)) hr hgd (by rfl) (ga_cons (ge_var 2) (ga_cons ge_int ga_nil)))) ga_nil))))
    (gss_cons (gs_set (i := 4) sc_law.nd rfl (.inl rfl) (ge_cb (cg_repr hgd hr.units) (by rfl) T.n_repr (by decide +kernel) (ga_cons (ge_var 3) ga_nil)))
    (gss_cons (gs_for (vs := [5]) PassesOwn.never rfl (gi_range1 (by rfl) T.n_range (ga_cons ge_int ga_nil)) (gg_name (i := 5) sc_law.nd rfl (.inl rfl)) (gss_cons (gs_asg (vs := [9, 10]) (ge_call (GF.mono (g__law_pick T) (by decide)) hr hgd (by rfl) (ga_cons (ge_var 2) (ga_cons (ge_var 3) ga_nil))) (gg_tup rfl (ggs_cons (gg_name (i := 9) sc_law.nd rfl (.inl rfl)) (ggs_cons (gg_name (i := 10) sc_law.nd rfl (.inl rfl)) ggs_nil))))
    (gss_cons (gs_set (i := 6) sc_law.nd rfl (.inl rfl) (ge_call (GF.mono (g__law_right T) (by decide)) hr hgd (by rfl) (ga_cons (ge_var 2) (ga_cons (ge_var 10) ga_nil))))
    (gss_cons (gs_set (i := 7) sc_law.nd rfl (.inl rfl) (ge_call (GF.mono (g__law_pick T) (by decide)) hr hgd (by rfl) (ga_cons (ge_var 2) (ga_cons (ge_lst (ga_cons (ge_var 9) (ga_cons (ge_var 9) (ga_cons (ge_ix (hu_of hr) (ge_ix (hu_of hr) (ge_var 3) ge_int) ge_int) (ga_cons ge_str (ga_cons (ge_call (GF.mono (g__law_odd T) (by decide)) hr hgd (by rfl) (ga_cons (ge_var 2) ga_nil)) (ga_cons (ge_var 10) ga_nil))))))) ga_nil))))
    (gss_one (gs_for (vs := [8]) PassesOwn.never rfl (gi_seq (ge_tup (ga_cons (ge_var 6) (ga_cons (ge_call (GF.mono (g__law_bent T) (by decide)) hr hgd (by rfl) (ga_cons (ge_var 2) (ga_cons (ge_var 6) ga_nil))) (ga_cons (ge_call (GF.mono (g__law_bent T) (by decide)) hr hgd (by rfl) (ga_cons (ge_var 2) (ga_cons (ge_var 6) ga_nil))) ga_nil))))) (gg_name (i := 8) sc_law.nd rfl (.inl rfl)) (gss_one (gs_for (vs := [11]) PassesOwn.never rfl (gi_seq (ge_tup (ga_cons (ge_var 9) (ga_cons (ge_var 7) ga_nil)))) (gg_name (i := 11) sc_law.nd rfl (.inl rfl)) (gss_cons (gs_set (i := 12) sc_law.nd rfl (.inl rfl) (ge_call (GF.mono (g_is_right T) (by decide)) hr hgd (by rfl) (ga_cons (ge_var 3) (ga_cons (ge_var 11) (ga_cons (ge_var 8) ga_nil)))))
    (gss_one (gs_if (GW.gt (gw_or (gt_not (gt_val (ge_isi .bool (by rfl) T.n_isinstance (by rfl) T.n_bool (by decide +kernel) (ge_var 12)))) (gw_or1 (gt_cmp (gop_ne hr.units) (ge_var 12) (ge_call (GF.mono (g__law_is_right T) (by decide)) hr hgd (by rfl) (ga_cons (ge_var 3) (ga_cons (ge_var 11) (ga_cons (ge_var 8) ga_nil)))))))) (gss_one (gs_ret ge_bl)) gss_nil)))))))))))
    (gss_one (gs_if (gt_cmp (gop_ne hr.units) (ge_cb (cg_repr hgd hr.units) (by rfl) T.n_repr (by decide +kernel) (ga_cons (ge_var 3) ga_nil)) (ge_var 4)) (gss_one (gs_ret ge_bl)) gss_nil)))))))
    (gss_one (gs_ret ge_bl)))))
end
theorem txt_mk {K : PySem.W.Frag} {w : World} {h : Heap} {mg : Str → Option Value} (X : K.In h) (G : h.Ns mainGlobals mg) (hwld : w = Wld.w)
    {f0 : Addr} {od0 an0 : Option Addr} {sl0 : Array (Option Value)} {oc0 kV0 dc0 pm0 cd0 ct0 : Value}
    {f1 : Addr} {od1 an1 : Option Addr} {sl1 : Array (Option Value)} {oc1 kV1 dc1 pm1 cd1 ct1 : Value}
    {f2 : Addr} {od2 an2 : Option Addr} {sl2 : Array (Option Value)} {oc2 kV2 dc2 pm2 cd2 ct2 : Value}
    {f3 : Addr} {od3 an3 : Option Addr} {sl3 : Array (Option Value)} {oc3 kV3 dc3 pm3 cd3 ct3 : Value}
    {f4 : Addr} {od4 an4 : Option Addr} {sl4 : Array (Option Value)} {oc4 kV4 dc4 pm4 cd4 ct4 : Value}
    {f5 : Addr} {od5 an5 : Option Addr} {sl5 : Array (Option Value)} {oc5 kV5 dc5 pm5 cd5 ct5 : Value}
    {f6 : Addr} {od6 an6 : Option Addr} {sl6 : Array (Option Value)} {oc6 kV6 dc6 pm6 cd6 ct6 : Value}
    {f7 : Addr} {od7 an7 : Option Addr} {sl7 : Array (Option Value)} {oc7 kV7 dc7 pm7 cd7 ct7 : Value}
    {f8 : Addr} {od8 an8 : Option Addr} {sl8 : Array (Option Value)} {oc8 kV8 dc8 pm8 cd8 ct8 : Value}
    {f9 : Addr} {od9 an9 : Option Addr} {sl9 : Array (Option Value)} {oc9 kV9 dc9 pm9 cd9 ct9 : Value}
    {f10 : Addr} {od10 an10 : Option Addr} {sl10 : Array (Option Value)} {oc10 kV10 dc10 pm10 cd10 ct10 : Value}
    {f11 : Addr} {od11 an11 : Option Addr} {sl11 : Array (Option Value)} {oc11 kV11 dc11 pm11 cd11 ct11 : Value}
    {f12 : Addr} {od12 an12 : Option Addr} {sl12 : Array (Option Value)} {oc12 kV12 dc12 pm12 cd12 ct12 : Value}
    {f13 : Addr} {od13 an13 : Option Addr} {sl13 : Array (Option Value)} {oc13 kV13 dc13 pm13 cd13 ct13 : Value}
    {f14 : Addr} {od14 an14 : Option Addr} {sl14 : Array (Option Value)} {oc14 kV14 dc14 pm14 cd14 ct14 : Value}
    {f15 : Addr} {od15 an15 : Option Addr} {sl15 : Array (Option Value)} {oc15 kV15 dc15 pm15 cd15 ct15 : Value}
    {f16 : Addr} {od16 an16 : Option Addr} {sl16 : Array (Option Value)} {oc16 kV16 dc16 pm16 cd16 ct16 : Value}
    {f17 : Addr} {od17 an17 : Option Addr} {sl17 : Array (Option Value)} {oc17 kV17 dc17 pm17 cd17 ct17 : Value}
    {f18 : Addr} {od18 an18 : Option Addr} {sl18 : Array (Option Value)} {oc18 kV18 dc18 pm18 cd18 ct18 : Value}
    {f19 : Addr} {od19 an19 : Option Addr} {sl19 : Array (Option Value)} {oc19 kV19 dc19 pm19 cd19 ct19 : Value}
    {f20 : Addr} {od20 an20 : Option Addr} {sl20 : Array (Option Value)} {oc20 kV20 dc20 pm20 cd20 ct20 : Value}
    {f21 : Addr} {od21 an21 : Option Addr} {sl21 : Array (Option Value)} {oc21 kV21 dc21 pm21 cd21 ct21 : Value}
    {f22 : Addr} {od22 an22 : Option Addr} {sl22 : Array (Option Value)} {oc22 kV22 dc22 pm22 cd22 ct22 : Value}
    {f23 : Addr} {od23 an23 : Option Addr} {sl23 : Array (Option Value)} {oc23 kV23 dc23 pm23 cd23 ct23 : Value}
    {f24 : Addr} {od24 an24 : Option Addr} {sl24 : Array (Option Value)} {oc24 kV24 dc24 pm24 cd24 ct24 : Value}
    {f25 : Addr} {od25 an25 : Option Addr} {sl25 : Array (Option Value)} {oc25 kV25 dc25 pm25 cd25 ct25 : Value}
    {f26 : Addr} {od26 an26 : Option Addr} {sl26 : Array (Option Value)} {oc26 kV26 dc26 pm26 cd26 ct26 : Value}
    {t_LETTERS : Tok}
    {t_MOST_LETTERS : Tok}
    {t_NUMBER : Tok}
    {t_GREATEST : Tok}
    {AFORMS : Addr} {esFORMS : Array DictEntry} {nnFORMS : Nat}
    {AFORMS0 : Addr} {itFORMS0 : Array Value} {nnFORMS0 : Nat} {slFORMS0 : Array (Option Value)} {tkFORMS0_0 : Tok}
    {AFORMS1 : Addr} {itFORMS1 : Array Value} {nnFORMS1 : Nat} {slFORMS1 : Array (Option Value)} {tkFORMS1_0 : Tok}
    {AFORMS2 : Addr} {itFORMS2 : Array Value} {nnFORMS2 : Nat} {slFORMS2 : Array (Option Value)} {tkFORMS2_0 : Tok}
    {AFORMS3 : Addr} {itFORMS3 : Array Value} {nnFORMS3 : Nat} {slFORMS3 : Array (Option Value)} {tkFORMS3_0 : Tok}
    {AFORMS4 : Addr} {itFORMS4 : Array Value} {nnFORMS4 : Nat} {slFORMS4 : Array (Option Value)} {tkFORMS4_0 : Tok}
    {AFORMS5 : Addr} {itFORMS5 : Array Value} {nnFORMS5 : Nat} {slFORMS5 : Array (Option Value)} {tkFORMS5_0 : Tok}
    (a0 : PySem.W.nsIn K mainGlobals "is_whole" = some (some (.ref f0))) (l0 : K.lookup f0 = some ⟨oc0, od0, .func (PySem.W.fnOf "is_whole" "is_whole" (defArgs (topS 3)) (defBody (topS 3)) (defScope (topS 3)) .none kV0 dc0 pm0 an0 cd0 ct0), sl0⟩) (c0 : PySem.W.codeIn K cd0 "is_whole" = true) (k0 : PySem.W.keepIn K (.ref f0) = true)
    (a1 : PySem.W.nsIn K mainGlobals "is_name" = some (some (.ref f1))) (l1 : K.lookup f1 = some ⟨oc1, od1, .func (PySem.W.fnOf "is_name" "is_name" (defArgs (topS 4)) (defBody (topS 4)) (defScope (topS 4)) .none kV1 dc1 pm1 an1 cd1 ct1), sl1⟩) (c1 : PySem.W.codeIn K cd1 "is_name" = true) (k1 : PySem.W.keepIn K (.ref f1) = true)
    (a2 : PySem.W.nsIn K mainGlobals "is_number" = some (some (.ref f2))) (l2 : K.lookup f2 = some ⟨oc2, od2, .func (PySem.W.fnOf "is_number" "is_number" (defArgs (topS 8)) (defBody (topS 8)) (defScope (topS 8)) .none kV2 dc2 pm2 an2 cd2 ct2), sl2⟩) (c2 : PySem.W.codeIn K cd2 "is_number" = true) (k2 : PySem.W.keepIn K (.ref f2) = true)
    (a3 : PySem.W.nsIn K mainGlobals "fits" = some (some (.ref f3))) (l3 : K.lookup f3 = some ⟨oc3, od3, .func (PySem.W.fnOf "fits" "fits" (defArgs (topS 9)) (defBody (topS 9)) (defScope (topS 9)) .none kV3 dc3 pm3 an3 cd3 ct3), sl3⟩) (c3 : PySem.W.codeIn K cd3 "fits" = true) (k3 : PySem.W.keepIn K (.ref f3) = true)
    (a4 : PySem.W.nsIn K mainGlobals "kind_of" = some (some (.ref f4))) (l4 : K.lookup f4 = some ⟨oc4, od4, .func (PySem.W.fnOf "kind_of" "kind_of" (defArgs (topS 11)) (defBody (topS 11)) (defScope (topS 11)) .none kV4 dc4 pm4 an4 cd4 ct4), sl4⟩) (c4 : PySem.W.codeIn K cd4 "kind_of" = true) (k4 : PySem.W.keepIn K (.ref f4) = true)
    (a5 : PySem.W.nsIn K mainGlobals "is_is" = some (some (.ref f5))) (l5 : K.lookup f5 = some ⟨oc5, od5, .func (PySem.W.fnOf "is_is" "is_is" (defArgs (topS 12)) (defBody (topS 12)) (defScope (topS 12)) .none kV5 dc5 pm5 an5 cd5 ct5), sl5⟩) (c5 : PySem.W.codeIn K cd5 "is_is" = true) (k5 : PySem.W.keepIn K (.ref f5) = true)
    (a6 : PySem.W.nsIn K mainGlobals "is_below" = some (some (.ref f6))) (l6 : K.lookup f6 = some ⟨oc6, od6, .func (PySem.W.fnOf "is_below" "is_below" (defArgs (topS 13)) (defBody (topS 13)) (defScope (topS 13)) .none kV6 dc6 pm6 an6 cd6 ct6), sl6⟩) (c6 : PySem.W.codeIn K cd6 "is_below" = true) (k6 : PySem.W.keepIn K (.ref f6) = true)
    (a7 : PySem.W.nsIn K mainGlobals "is_like" = some (some (.ref f7))) (l7 : K.lookup f7 = some ⟨oc7, od7, .func (PySem.W.fnOf "is_like" "is_like" (defArgs (topS 14)) (defBody (topS 14)) (defScope (topS 14)) .none kV7 dc7 pm7 an7 cd7 ct7), sl7⟩) (c7 : PySem.W.codeIn K cd7 "is_like" = true) (k7 : PySem.W.keepIn K (.ref f7) = true)
    (a8 : PySem.W.nsIn K mainGlobals "are_checks" = some (some (.ref f8))) (l8 : K.lookup f8 = some ⟨oc8, od8, .func (PySem.W.fnOf "are_checks" "are_checks" (defArgs (topS 15)) (defBody (topS 15)) (defScope (topS 15)) .none kV8 dc8 pm8 an8 cd8 ct8), sl8⟩) (c8 : PySem.W.codeIn K cd8 "are_checks" = true) (k8 : PySem.W.keepIn K (.ref f8) = true)
    (a9 : PySem.W.nsIn K mainGlobals "is_check" = some (some (.ref f9))) (l9 : K.lookup f9 = some ⟨oc9, od9, .func (PySem.W.fnOf "is_check" "is_check" (defArgs (topS 17)) (defBody (topS 17)) (defScope (topS 17)) .none kV9 dc9 pm9 an9 cd9 ct9), sl9⟩) (c9 : PySem.W.codeIn K cd9 "is_check" = true) (k9 : PySem.W.keepIn K (.ref f9) = true)
    (a10 : PySem.W.nsIn K mainGlobals "columns_in" = some (some (.ref f10))) (l10 : K.lookup f10 = some ⟨oc10, od10, .func (PySem.W.fnOf "columns_in" "columns_in" (defArgs (topS 19)) (defBody (topS 19)) (defScope (topS 19)) .none kV10 dc10 pm10 an10 cd10 ct10), sl10⟩) (c10 : PySem.W.codeIn K cd10 "columns_in" = true) (k10 : PySem.W.keepIn K (.ref f10) = true)
    (a11 : PySem.W.nsIn K mainGlobals "are_some_names" = some (some (.ref f11))) (l11 : K.lookup f11 = some ⟨oc11, od11, .func (PySem.W.fnOf "are_some_names" "are_some_names" (defArgs (topS 20)) (defBody (topS 20)) (defScope (topS 20)) .none kV11 dc11 pm11 an11 cd11 ct11), sl11⟩) (c11 : PySem.W.codeIn K cd11 "are_some_names" = true) (k11 : PySem.W.keepIn K (.ref f11) = true)
    (a12 : PySem.W.nsIn K mainGlobals "is_right" = some (some (.ref f12))) (l12 : K.lookup f12 = some ⟨oc12, od12, .func (PySem.W.fnOf "is_right" "is_right" (defArgs (topS 21)) (defBody (topS 21)) (defScope (topS 21)) .none kV12 dc12 pm12 an12 cd12 ct12), sl12⟩) (c12 : PySem.W.codeIn K cd12 "is_right" = true) (k12 : PySem.W.keepIn K (.ref f12) = true)
    (a13 : PySem.W.nsIn K mainGlobals "_law_hand" = some (some (.ref f13))) (l13 : K.lookup f13 = some ⟨oc13, od13, .func (PySem.W.fnOf "_law_hand" "_law_hand" (defArgs (topS 23)) (defBody (topS 23)) (defScope (topS 23)) .none kV13 dc13 pm13 an13 cd13 ct13), sl13⟩) (c13 : PySem.W.codeIn K cd13 "_law_hand" = true) (k13 : PySem.W.keepIn K (.ref f13) = true)
    (a14 : PySem.W.nsIn K mainGlobals "_law_take" = some (some (.ref f14))) (l14 : K.lookup f14 = some ⟨oc14, od14, .func (PySem.W.fnOf "_law_take" "_law_take" (defArgs (topS 24)) (defBody (topS 24)) (defScope (topS 24)) .none kV14 dc14 pm14 an14 cd14 ct14), sl14⟩) (c14 : PySem.W.codeIn K cd14 "_law_take" = true) (k14 : PySem.W.keepIn K (.ref f14) = true)
    (a15 : PySem.W.nsIn K mainGlobals "_law_pick" = some (some (.ref f15))) (l15 : K.lookup f15 = some ⟨oc15, od15, .func (PySem.W.fnOf "_law_pick" "_law_pick" (defArgs (topS 25)) (defBody (topS 25)) (defScope (topS 25)) .none kV15 dc15 pm15 an15 cd15 ct15), sl15⟩) (c15 : PySem.W.codeIn K cd15 "_law_pick" = true) (k15 : PySem.W.keepIn K (.ref f15) = true)
    (a16 : PySem.W.nsIn K mainGlobals "_law_columns" = some (some (.ref f16))) (l16 : K.lookup f16 = some ⟨oc16, od16, .func (PySem.W.fnOf "_law_columns" "_law_columns" (defArgs (topS 26)) (defBody (topS 26)) (defScope (topS 26)) .none kV16 dc16 pm16 an16 cd16 ct16), sl16⟩) (c16 : PySem.W.codeIn K cd16 "_law_columns" = true) (k16 : PySem.W.keepIn K (.ref f16) = true)
    (a17 : PySem.W.nsIn K mainGlobals "_law_plan" = some (some (.ref f17))) (l17 : K.lookup f17 = some ⟨oc17, od17, .func (PySem.W.fnOf "_law_plan" "_law_plan" (defArgs (topS 27)) (defBody (topS 27)) (defScope (topS 27)) .none kV17 dc17 pm17 an17 cd17 ct17), sl17⟩) (c17 : PySem.W.codeIn K cd17 "_law_plan" = true) (k17 : PySem.W.keepIn K (.ref f17) = true)
    (a18 : PySem.W.nsIn K mainGlobals "_law_worth" = some (some (.ref f18))) (l18 : K.lookup f18 = some ⟨oc18, od18, .func (PySem.W.fnOf "_law_worth" "_law_worth" (defArgs (topS 28)) (defBody (topS 28)) (defScope (topS 28)) .none kV18 dc18 pm18 an18 cd18 ct18), sl18⟩) (c18 : PySem.W.codeIn K cd18 "_law_worth" = true) (k18 : PySem.W.keepIn K (.ref f18) = true)
    (a19 : PySem.W.nsIn K mainGlobals "_law_check" = some (some (.ref f19))) (l19 : K.lookup f19 = some ⟨oc19, od19, .func (PySem.W.fnOf "_law_check" "_law_check" (defArgs (topS 29)) (defBody (topS 29)) (defScope (topS 29)) .none kV19 dc19 pm19 an19 cd19 ct19), sl19⟩) (c19 : PySem.W.codeIn K cd19 "_law_check" = true) (k19 : PySem.W.keepIn K (.ref f19) = true)
    (a20 : PySem.W.nsIn K mainGlobals "_law_right" = some (some (.ref f20))) (l20 : K.lookup f20 = some ⟨oc20, od20, .func (PySem.W.fnOf "_law_right" "_law_right" (defArgs (topS 30)) (defBody (topS 30)) (defScope (topS 30)) .none kV20 dc20 pm20 an20 cd20 ct20), sl20⟩) (c20 : PySem.W.codeIn K cd20 "_law_right" = true) (k20 : PySem.W.keepIn K (.ref f20) = true)
    (a21 : PySem.W.nsIn K mainGlobals "_law_fits" = some (some (.ref f21))) (l21 : K.lookup f21 = some ⟨oc21, od21, .func (PySem.W.fnOf "_law_fits" "_law_fits" (defArgs (topS 31)) (defBody (topS 31)) (defScope (topS 31)) .none kV21 dc21 pm21 an21 cd21 ct21), sl21⟩) (c21 : PySem.W.codeIn K cd21 "_law_fits" = true) (k21 : PySem.W.keepIn K (.ref f21) = true)
    (a22 : PySem.W.nsIn K mainGlobals "_law_is_check" = some (some (.ref f22))) (l22 : K.lookup f22 = some ⟨oc22, od22, .func (PySem.W.fnOf "_law_is_check" "_law_is_check" (defArgs (topS 32)) (defBody (topS 32)) (defScope (topS 32)) .none kV22 dc22 pm22 an22 cd22 ct22), sl22⟩) (c22 : PySem.W.codeIn K cd22 "_law_is_check" = true) (k22 : PySem.W.keepIn K (.ref f22) = true)
    (a23 : PySem.W.nsIn K mainGlobals "_law_is_right" = some (some (.ref f23))) (l23 : K.lookup f23 = some ⟨oc23, od23, .func (PySem.W.fnOf "_law_is_right" "_law_is_right" (defArgs (topS 33)) (defBody (topS 33)) (defScope (topS 33)) .none kV23 dc23 pm23 an23 cd23 ct23), sl23⟩) (c23 : PySem.W.codeIn K cd23 "_law_is_right" = true) (k23 : PySem.W.keepIn K (.ref f23) = true)
    (a24 : PySem.W.nsIn K mainGlobals "_law_odd" = some (some (.ref f24))) (l24 : K.lookup f24 = some ⟨oc24, od24, .func (PySem.W.fnOf "_law_odd" "_law_odd" (defArgs (topS 34)) (defBody (topS 34)) (defScope (topS 34)) .none kV24 dc24 pm24 an24 cd24 ct24), sl24⟩) (c24 : PySem.W.codeIn K cd24 "_law_odd" = true) (k24 : PySem.W.keepIn K (.ref f24) = true)
    (a25 : PySem.W.nsIn K mainGlobals "_law_bent" = some (some (.ref f25))) (l25 : K.lookup f25 = some ⟨oc25, od25, .func (PySem.W.fnOf "_law_bent" "_law_bent" (defArgs (topS 35)) (defBody (topS 35)) (defScope (topS 35)) .none kV25 dc25 pm25 an25 cd25 ct25), sl25⟩) (c25 : PySem.W.codeIn K cd25 "_law_bent" = true) (k25 : PySem.W.keepIn K (.ref f25) = true)
    (a26 : PySem.W.nsIn K mainGlobals "law" = some (some (.ref f26))) (l26 : K.lookup f26 = some ⟨oc26, od26, .func (PySem.W.fnOf "law" "law" (defArgs (topS 36)) (defBody (topS 36)) (defScope (topS 36)) .none kV26 dc26 pm26 an26 cd26 ct26), sl26⟩) (c26 : PySem.W.codeIn K cd26 "law" = true) (k26 : PySem.W.keepIn K (.ref f26) = true)
    (g_LETTERS : PySem.W.nsIn K mainGlobals "LETTERS" = some (some (.str "abcdefghijklmnopqrstuvwxyz" t_LETTERS)))
    (g_MOST_LETTERS : PySem.W.nsIn K mainGlobals "MOST_LETTERS" = some (some (.int 8 t_MOST_LETTERS)))
    (g_NUMBER : PySem.W.nsIn K mainGlobals "NUMBER" = some (some (.str "number" t_NUMBER)))
    (g_GREATEST : PySem.W.nsIn K mainGlobals "GREATEST" = some (some (.int 1000000000 t_GREATEST)))
    (ta_FORMS : PySem.W.nsIn K mainGlobals "FORMS" = some (some (.ref AFORMS))) (tl_FORMS : K.lookup AFORMS = some ⟨.type "dict", none, .dict esFORMS nnFORMS, #[]⟩)
    (tk_FORMS : esFORMS.toList.map He.keyOf = He.keysIn w.params ["is", "below", "like", "not", "and", "or"]) (tv_FORMS : esFORMS.toList.map (·.val) = [.ref AFORMS0, .ref AFORMS1, .ref AFORMS2, .ref AFORMS3, .ref AFORMS4, .ref AFORMS5]) (ts_FORMS : (AFORMS == sysModules) = false)
    (u_FORMS0 : K.lookup AFORMS0 = some ⟨.type "tuple", none, .seq itFORMS0 nnFORMS0, slFORMS0⟩) (v_FORMS0 : itFORMS0.toList = [.int 2 tkFORMS0_0, .ref f5])
    (u_FORMS1 : K.lookup AFORMS1 = some ⟨.type "tuple", none, .seq itFORMS1 nnFORMS1, slFORMS1⟩) (v_FORMS1 : itFORMS1.toList = [.int 2 tkFORMS1_0, .ref f6])
    (u_FORMS2 : K.lookup AFORMS2 = some ⟨.type "tuple", none, .seq itFORMS2 nnFORMS2, slFORMS2⟩) (v_FORMS2 : itFORMS2.toList = [.int 2 tkFORMS2_0, .ref f7])
    (u_FORMS3 : K.lookup AFORMS3 = some ⟨.type "tuple", none, .seq itFORMS3 nnFORMS3, slFORMS3⟩) (v_FORMS3 : itFORMS3.toList = [.int 1 tkFORMS3_0, .ref f8])
    (u_FORMS4 : K.lookup AFORMS4 = some ⟨.type "tuple", none, .seq itFORMS4 nnFORMS4, slFORMS4⟩) (v_FORMS4 : itFORMS4.toList = [.int 2 tkFORMS4_0, .ref f8])
    (u_FORMS5 : K.lookup AFORMS5 = some ⟨.type "tuple", none, .seq itFORMS5 nnFORMS5, slFORMS5⟩) (v_FORMS5 : itFORMS5.toList = [.int 2 tkFORMS5_0, .ref f8])
    (z_abs : PySem.W.nsIn K mainGlobals "abs" = some none)
    (z_all : PySem.W.nsIn K mainGlobals "all" = some none)
    (z_bool : PySem.W.nsIn K mainGlobals "bool" = some none)
    (z_dict : PySem.W.nsIn K mainGlobals "dict" = some none)
    (z_int : PySem.W.nsIn K mainGlobals "int" = some none)
    (z_isinstance : PySem.W.nsIn K mainGlobals "isinstance" = some none)
    (z_len : PySem.W.nsIn K mainGlobals "len" = some none)
    (z_list : PySem.W.nsIn K mainGlobals "list" = some none)
    (z_min : PySem.W.nsIn K mainGlobals "min" = some none)
    (z_range : PySem.W.nsIn K mainGlobals "range" = some none)
    (z_repr : PySem.W.nsIn K mainGlobals "repr" = some none)
    (z_set : PySem.W.nsIn K mainGlobals "set" = some none)
    (z_sorted : PySem.W.nsIn K mainGlobals "sorted" = some none)
    (z_str : PySem.W.nsIn K mainGlobals "str" = some none)
    (z_tuple : PySem.W.nsIn K mainGlobals "tuple" = some none)
    : Txt K w mg ⟨AFORMS, f5, f6, f7, f8⟩ := {
    wld := hwld,
    d_is_whole := DF.mk' X G (fun_mk (st := topS 3) l0 c0 k0) a0 (fun F => F.binds (ps := ["thing"]) fun _ _ _ _ _ _ us hl => (match us, hl with | [_], _ => rfl)),
    d_is_name := DF.mk' X G (fun_mk (st := topS 4) l1 c1 k1) a1 (fun F => F.binds (ps := ["thing"]) fun _ _ _ _ _ _ us hl => (match us, hl with | [_], _ => rfl)),
    d_is_number := DF.mk' X G (fun_mk (st := topS 8) l2 c2 k2) a2 (fun F => F.binds (ps := ["thing"]) fun _ _ _ _ _ _ us hl => (match us, hl with | [_], _ => rfl)),
    d_fits := DF.mk' X G (fun_mk (st := topS 9) l3 c3 k3) a3 (fun F => F.binds (ps := ["kind", "thing"]) fun _ _ _ _ _ _ us hl => (match us, hl with | [_, _], _ => rfl)),
    d_kind_of := DF.mk' X G (fun_mk (st := topS 11) l4 c4 k4) a4 (fun F => F.binds (ps := ["columns", "name"]) fun _ _ _ _ _ _ us hl => (match us, hl with | [_, _], _ => rfl)),
    d_is_is := DF.mk' X G (fun_mk (st := topS 12) l5 c5 k5) a5 (fun F => F.binds (ps := ["columns", "parts"]) fun _ _ _ _ _ _ us hl => (match us, hl with | [_, _], _ => rfl)),
    d_is_below := DF.mk' X G (fun_mk (st := topS 13) l6 c6 k6) a6 (fun F => F.binds (ps := ["columns", "parts"]) fun _ _ _ _ _ _ us hl => (match us, hl with | [_, _], _ => rfl)),
    d_is_like := DF.mk' X G (fun_mk (st := topS 14) l7 c7 k7) a7 (fun F => F.binds (ps := ["columns", "parts"]) fun _ _ _ _ _ _ us hl => (match us, hl with | [_, _], _ => rfl)),
    d_are_checks := DF.mk' X G (fun_mk (st := topS 15) l8 c8 k8) a8 (fun F => F.binds (ps := ["columns", "parts"]) fun _ _ _ _ _ _ us hl => (match us, hl with | [_, _], _ => rfl)),
    d_is_check := DF.mk' X G (fun_mk (st := topS 17) l9 c9 k9) a9 (fun F => F.binds (ps := ["columns", "thing"]) fun _ _ _ _ _ _ us hl => (match us, hl with | [_, _], _ => rfl)),
    d_columns_in := DF.mk' X G (fun_mk (st := topS 19) l10 c10 k10) a10 (fun F => F.binds (ps := ["plan", "table"]) fun _ _ _ _ _ _ us hl => (match us, hl with | [_, _], _ => rfl)),
    d_are_some_names := DF.mk' X G (fun_mk (st := topS 20) l11 c11 k11) a11 (fun F => F.binds (ps := ["columns", "thing"]) fun _ _ _ _ _ _ us hl => (match us, hl with | [_, _], _ => rfl)),
    d_is_right := DF.mk' X G (fun_mk (st := topS 21) l12 c12 k12) a12 (fun F => F.binds (ps := ["plan", "table", "thing"]) fun _ _ _ _ _ _ us hl => (match us, hl with | [_, _, _], _ => rfl)),
    d__law_hand := DF.mk' X G (fun_mk (st := topS 23) l13 c13 k13) a13 (fun F => F.binds (ps := ["_law_script", "_law_k"]) fun _ _ _ _ _ _ us hl => (match us, hl with | [_, _], _ => rfl)),
    d__law_take := DF.mk' X G (fun_mk (st := topS 24) l14 c14 k14) a14 (fun F => F.binds (ps := ["_law_hand_here", "_law_many"]) fun _ _ _ _ _ _ us hl => (match us, hl with | [_, _], _ => rfl)),
    d__law_pick := DF.mk' X G (fun_mk (st := topS 25) l15 c15 k15) a15 (fun F => F.binds (ps := ["_law_hand_here", "_law_some"]) fun _ _ _ _ _ _ us hl => (match us, hl with | [_, _], _ => rfl)),
    d__law_columns := DF.mk' X G (fun_mk (st := topS 26) l16 c16 k16) a16 (fun F => F.binds (ps := ["_law_hand_here"]) fun _ _ _ _ _ _ us hl => (match us, hl with | [_], _ => rfl)),
    d__law_plan := DF.mk' X G (fun_mk (st := topS 27) l17 c17 k17) a17 (fun F => F.binds (ps := ["_law_hand_here", "_law_many"]) fun _ _ _ _ _ _ us hl => (match us, hl with | [_, _], _ => rfl)),
    d__law_worth := DF.mk' X G (fun_mk (st := topS 28) l18 c18 k18) a18 (fun F => F.binds (ps := ["_law_hand_here", "_law_kind", "_law_is_key"]) fun _ _ _ _ _ _ us hl => (match us, hl with | [_, _, _], _ => rfl)),
    d__law_check := DF.mk' X G (fun_mk (st := topS 29) l19 c19 k19) a19 (fun F => F.binds (ps := ["_law_hand_here", "_law_columns_here", "_law_deep"]) fun _ _ _ _ _ _ us hl => (match us, hl with | [_, _, _], _ => rfl)),
    d__law_right := DF.mk' X G (fun_mk (st := topS 30) l20 c20 k20) a20 (fun F => F.binds (ps := ["_law_hand_here", "_law_columns_here"]) fun _ _ _ _ _ _ us hl => (match us, hl with | [_, _], _ => rfl)),
    d__law_fits := DF.mk' X G (fun_mk (st := topS 31) l21 c21 k21) a21 (fun F => F.binds (ps := ["_law_worth_here", "_law_kind"]) fun _ _ _ _ _ _ us hl => (match us, hl with | [_, _], _ => rfl)),
    d__law_is_check := DF.mk' X G (fun_mk (st := topS 32) l22 c22 k22) a22 (fun F => F.binds (ps := ["_law_columns_here", "_law_thing"]) fun _ _ _ _ _ _ us hl => (match us, hl with | [_, _], _ => rfl)),
    d__law_is_right := DF.mk' X G (fun_mk (st := topS 33) l23 c23 k23) a23 (fun F => F.binds (ps := ["_law_plan_here", "_law_table", "_law_thing"]) fun _ _ _ _ _ _ us hl => (match us, hl with | [_, _, _], _ => rfl)),
    d__law_odd := DF.mk' X G (fun_mk (st := topS 34) l24 c24 k24) a24 (fun F => F.binds (ps := ["_law_hand_here"]) fun _ _ _ _ _ _ us hl => (match us, hl with | [_], _ => rfl)),
    d__law_bent := DF.mk' X G (fun_mk (st := topS 35) l25 c25 k25) a25 (fun F => F.binds (ps := ["_law_hand_here", "_law_right_here"]) fun _ _ _ _ _ _ us hl => (match us, hl with | [_, _], _ => rfl)),
    d_law := DF.mk' X G (fun_mk (st := topS 36) l26 c26 k26) a26 (fun F => F.binds (ps := ["_law_script"]) fun _ _ _ _ _ _ us hl => (match us, hl with | [_], _ => rfl)),
    m_is_is := PySem.W.mg_of X G a5,
    m_is_below := PySem.W.mg_of X G a6,
    m_is_like := PySem.W.mg_of X G a7,
    m_are_checks := PySem.W.mg_of X G a8,
    m_FORMS := PySem.W.mg_of X G ta_FORMS,
    t_FORMS := KTab.mk' tl_FORMS tk_FORMS tv_FORMS ts_FORMS (vs_ref (vs_ref (vs_ref (vs_ref (vs_ref (vs_ref vs_nil)))))) (fun H ι => (.cons (rd_tupK u_FORMS0 v_FORMS0 (by simp) (vs_int (vs_ref vs_nil)) (fun H ι => (.cons (.int _) (.cons (.fn _) RDs.nil))) H ι) (.cons (rd_tupK u_FORMS1 v_FORMS1 (by simp) (vs_int (vs_ref vs_nil)) (fun H ι => (.cons (.int _) (.cons (.fn _) RDs.nil))) H ι) (.cons (rd_tupK u_FORMS2 v_FORMS2 (by simp) (vs_int (vs_ref vs_nil)) (fun H ι => (.cons (.int _) (.cons (.fn _) RDs.nil))) H ι) (.cons (rd_tupK u_FORMS3 v_FORMS3 (by simp) (vs_int (vs_ref vs_nil)) (fun H ι => (.cons (.int _) (.cons (.fn _) RDs.nil))) H ι) (.cons (rd_tupK u_FORMS4 v_FORMS4 (by simp) (vs_int (vs_ref vs_nil)) (fun H ι => (.cons (.int _) (.cons (.fn _) RDs.nil))) H ι) (.cons (rd_tupK u_FORMS5 v_FORMS5 (by simp) (vs_int (vs_ref vs_nil)) (fun H ι => (.cons (.int _) (.cons (.fn _) RDs.nil))) H ι) RDs.nil))))))),
    c_LETTERS := ⟨_, PySem.W.mg_of X G g_LETTERS⟩,
    c_MOST_LETTERS := ⟨_, PySem.W.mg_of X G g_MOST_LETTERS⟩,
    c_NUMBER := ⟨_, PySem.W.mg_of X G g_NUMBER⟩,
    c_GREATEST := ⟨_, PySem.W.mg_of X G g_GREATEST⟩,
    n_abs := PySem.W.mg_none_of X G z_abs,
    n_all := PySem.W.mg_none_of X G z_all,
    n_bool := PySem.W.mg_none_of X G z_bool,
    n_dict := PySem.W.mg_none_of X G z_dict,
    n_int := PySem.W.mg_none_of X G z_int,
    n_isinstance := PySem.W.mg_none_of X G z_isinstance,
    n_len := PySem.W.mg_none_of X G z_len,
    n_list := PySem.W.mg_none_of X G z_list,
    n_min := PySem.W.mg_none_of X G z_min,
    n_range := PySem.W.mg_none_of X G z_range,
    n_repr := PySem.W.mg_none_of X G z_repr,
    n_set := PySem.W.mg_none_of X G z_set,
    n_sorted := PySem.W.mg_none_of X G z_sorted,
    n_str := PySem.W.mg_none_of X G z_str,
    n_tuple := PySem.W.mg_none_of X G z_tuple }
theorem law_of {l : PySem.W.OpenLaw} {w : World} {K : PySem.W.Frag} {mg : Str → Option Value} {A : FA} {fa : Addr} (T : Txt K w mg A) (hfa : mg "law" = some (.ref fa)) {Y : Fn → Prop} (ht : Y (f_law A)) :
    ∃ (f : Fn) (fd : FuncData), (∀ (s : Shared) (v : Value), BindsTo s fd ⟨[v], []⟩ [("_law_script", v)]) ∧ (∀ base : Heap, K.In base → base.Ns mainGlobals mg → FnG l.prog w K mg base 127 fa fd ["_law_script"] (spG K 1 f)) ∧ Y f := by
  obtain ⟨f, fd, F, hm, hb⟩ := T.d_law.ex
  cases hfa.symm.trans hm
  refine ⟨_, fd, ?_, fun base _ _ => ok_law T F, ht⟩
  obtain ⟨oc, od, kV, doc, pm, an, cdv, ct, osl, rfl, _, _⟩ := F.ex
  exact fun s v => .of_eq rfl
abbrev lawLevel : Nat := 127
end G

set_option Elab.async false
set_option linter.all false
set_option maxRecDepth 100000
namespace G
variable [Wld]
open PySem PySem.Spec PyProof.Rows L2
noncomputable def t_fits_1 : M Fl := (mRet (mIf (bnd (mBin (gEq false) (mVar 0) (mC (.str "number"))) asB) (mCall 1 f_is_number (mCons (mVar 1) mNil)) (mCall 1 f_is_name (mCons (mVar 1) mNil))))
noncomputable def t_kind_of_1 : M Fl := (mRet (mBin gIx (mBin gAdd (mLc [2, 3] (gtTup 2 (gtCons (gtName 2) (gtCons (gtName 3) gtNil))) (mSrc (mVar 0)) (bnd (mBin (gEq false) (mVar 2) (mVar 1)) asB) (mVar 3)) (mLst (mCons (mC .non) mNil))) (mC (.int 0))))
noncomputable def t_is_is_1 : M Fl := (mRet (mAndV (mBin (gIsN true) (mVar 2) (mC .non)) (mCall 2 f_fits (mCons (mVar 2) (mCons (mBin gIx (mVar 1) (mC (.int 1))) mNil)))))
noncomputable def t_is_like_1 : M Fl := (mRet (mAndV (mBin (gIsN true) (mVar 2) (mC .non)) (mBin (gEq false) (mVar 2) (mCall 2 f_kind_of (mCons (mVar 0) (mCons (mBin gIx (mVar 1) (mC (.int 1))) mNil))))))
noncomputable def t_is_check_4 (A : FA) (self : Fn) : M Fl := (mRet (mAndV (mBin (gEq false) (bnd (mCons (mVar 5) mNil) (g1 gLen)) (mVar 3)) (mCallL 4 2 [(A.is_is, f_is_is), (A.is_below, f_is_below), (A.is_like, f_is_like), (A.are_checks, fo_are_checks self)] (mCons (mVar 0) (mCons (mVar 5) mNil)))))
noncomputable def t_is_check_3 (A : FA) (self : Fn) : M Fl := mSeq (mAsg (gtTup 2 (gtCons (gtName 3) (gtCons (gtName 4) gtNil))) (mBin (gIxT A.FORMS (tb_FORMS A)) (mC (.fn A.FORMS)) (mVar 2))) (t_is_check_4 A self)
noncomputable def t_is_check_2 (A : FA) (self : Fn) : M Fl := mSeq (mIfS (bnd (mBin (gInT true A.FORMS (tb_FORMS A)) (mVar 2) (mC (.fn A.FORMS))) asB) (mRet (mC (.bl false))) mSkip) (t_is_check_3 A self)
noncomputable def t_is_check_1 (A : FA) (self : Fn) : M Fl := mSeq (mStar 2 5 (mVar 1)) (t_is_check_2 A self)
noncomputable def t_are_some_names_1 : M Fl := (mRet (mBin (gEq false) (bnd (mCons (mVar 1) mNil) (g1 gList)) (mLc [2, 3] (gtTup 2 (gtCons (gtName 2) (gtCons (gtName 3) gtNil))) (mSrc (mVar 0)) (bnd (mBin (gIn false) (mVar 2) (mVar 1)) asB) (mVar 2))))
theorem e_are_some_names_1 : type_of% @t_are_some_names_1.eq_1 := @t_are_some_names_1.eq_1
theorem e_are_some_names_0 : b_are_some_names = mSeq (mIfS (mOr (mNot (bnd (mIsi .tuple (mVar 1)) asB)) (mNot (bnd (bnd (mCons (mLc [2] (gtName 2) (mSrc (mVar 1)) (pur true) (mIsi .str (mVar 2))) mNil) (g1 (gBls fun bs => bs.all id))) asB))) (mRet (mC (.bl false))) mSkip) (t_are_some_names_1) := rfl
noncomputable def t_is_right_5 (A : FA) : M Fl := (mRet (mAndV (mOrV (mBin (gIsN false) (mVar 4) (mC .non)) (mCall 2 (f_is_check A 60) (mCons (mVar 3) (mCons (mVar 4) mNil)))) (mCall 2 f_are_some_names (mCons (mVar 3) (mCons (mVar 5) mNil)))))
theorem e_is_right_5 : type_of% @t_is_right_5.eq_1 := @t_is_right_5.eq_1
noncomputable def t_is_right_4 (A : FA) : M Fl := mSeq (mAsg (gtTup 2 (gtCons (gtName 4) (gtCons (gtName 5) gtNil))) (mVar 2)) (t_is_right_5 A)
theorem e_is_right_4 : type_of% @t_is_right_4.eq_1 := @t_is_right_4.eq_1
noncomputable def t_is_right_3 (A : FA) : M Fl := mSeq (mIfS (mOr (mNot (bnd (mIsi .tuple (mVar 2)) asB)) (bnd (mBin (gEq true) (bnd (mCons (mVar 2) mNil) (g1 gLen)) (mC (.int 2))) asB)) (mRet (mC (.bl false))) mSkip) (t_is_right_4 A)
theorem e_is_right_3 : type_of% @t_is_right_3.eq_1 := @t_is_right_3.eq_1
noncomputable def t_is_right_2 (A : FA) : M Fl := mSeq (mIfS (bnd (mBin (gIsN false) (mVar 2) (mC .non)) asB) (mRet (mC (.bl true))) mSkip) (t_is_right_3 A)
theorem e_is_right_2 : type_of% @t_is_right_2.eq_1 := @t_is_right_2.eq_1
noncomputable def t_is_right_1 (A : FA) : M Fl := mSeq (mIfS (bnd (mBin (gIsN false) (mVar 3) (mC .non)) asB) (mRet (mC (.bl false))) mSkip) (t_is_right_2 A)
theorem e_is_right_1 : type_of% @t_is_right_1.eq_1 := @t_is_right_1.eq_1
theorem e_is_right_0 {A : FA} : b_is_right A = mSeq (mSet 3 (mCall 2 f_columns_in (mCons (mVar 0) (mCons (mVar 1) mNil)))) (t_is_right_1 A) := rfl
noncomputable def t__law_hand_3 : M Fl := (mRet (mBox (mLst (mCons (mBin (gP dMul) (bnd (mCons (mVar 2) mNil) (g1 gAbs)) (bnd (mCons (mBin (gP fun x y => dLe y x) (bnd (mCons (mVar 2) mNil) (g1 gAbs)) (mBin (gP dPow) (mC (.int 10)) (mC (.int 18)))) mNil) (g1 gInt))) (mCons (mVar 3) (mCons (mC (.int 0)) mNil))))))
theorem e__law_hand_3 : type_of% @t__law_hand_3.eq_1 := @t__law_hand_3.eq_1
noncomputable def t__law_hand_2 : M Fl := mSeq (mSet 3 (mBin (gP dMod) (mBin (gP dMul) (mBin gAdd (mBin gAdd (mBin (gP dMod) (mVar 2) (mC (.int 2305843009213693951))) (mBin (gP dMul) (mBin (gP dMul) (mC (.int 6143)) (mVar 1)) (mVar 1))) (mC (.int 19))) (mC (.int 48271))) (mC (.int 2305843009213693921)))) (t__law_hand_3)
theorem e__law_hand_2 : type_of% @t__law_hand_2.eq_1 := @t__law_hand_2.eq_1
noncomputable def t__law_hand_1 : M Fl := mSeq (mIfS (bnd (mBin (gP dLt) (mVar 1) (bnd (mCons (mVar 0) mNil) (g1 gLen))) asB) (mSet 2 (mBin gIx (mVar 0) (mVar 1))) mSkip) (t__law_hand_2)
theorem e__law_hand_1 : type_of% @t__law_hand_1.eq_1 := @t__law_hand_1.eq_1
theorem e__law_hand_0 : b__law_hand = mSeq (mSet 2 (mC (.int 0))) (t__law_hand_1) := rfl
noncomputable def t__law_take_4 : M Fl := (mRet (mBin (gP dMod) (mBin gAdd (mBin (gP dDiv) (mVar 2) (mC (.int 89))) (mBin (gP dDiv) (mVar 2) (mC (.int 999979)))) (mVar 1)))
noncomputable def t__law_take_3 : M Fl := mSeq (mSet 2 (mBin (gP dMod) (mBin (gP dMul) (mVar 2) (mBin gAdd (mBin (gP dMod) (mVar 2) (mC (.int 999983))) (mBin (gP dMul) (mC (.int 90001)) (mBin gIx (mVar 0) (mC (.int 2)))))) (mC (.int 2305843009213693907)))) (t__law_take_4)
noncomputable def t__law_take_2 : M Fl := mSeq (mSet 2 (mBin (gP dMod) (mBin (gP dMul) (mBin gAdd (mBin gAdd (mBin gIx (mVar 0) (mC (.int 1))) (mBin (gP dMul) (mBin (gP dMul) (mC (.int 104729)) (mBin gIx (mVar 0) (mC (.int 2)))) (mBin gIx (mVar 0) (mC (.int 2))))) (mC (.int 13))) (mC (.int 69621))) (mC (.int 2305843009213693921)))) (t__law_take_3)
noncomputable def t__law_take_1 : M Fl := mSeq (mSetI (mBin gAdd (mBin gIx (mVar 0) (mC (.int 2))) (mC (.int 1))) (mVar 0) (mC (.int 2))) (t__law_take_2)
noncomputable def t__law_columns_3 : M Fl := (mRet (bnd (mCons (mVar 2) mNil) (g1 gTuple)))
theorem e__law_columns_3 : type_of% @t__law_columns_3.eq_1 := @t__law_columns_3.eq_1
noncomputable def t__law_columns_2 : M Fl := mSeq (mFor (gtName 3) (mSrc (mSl (mLst (mCons (mC (.str "x")) (mCons (mC (.str "y")) (mCons (mC (.str "z")) mNil)))) (pur none) (bnd (mCall 2 f__law_take (mCons (mVar 0) (mCons (mC (.int 4)) mNil))) asI))) (mDrop (mMth "list" gAppend (mVar 2) (mCons (mTup (mCons (mVar 3) (mCons (mCall 2 f__law_pick (mCons (mVar 0) (mCons (mVar 1) mNil))) mNil))) mNil)))) (t__law_columns_3)
theorem e__law_columns_2 : type_of% @t__law_columns_2.eq_1 := @t__law_columns_2.eq_1
noncomputable def t__law_columns_1 : M Fl := mSeq (mSet 2 (mLst (mCons (mTup (mCons (mC (.str "k")) (mCons (mCall 2 f__law_pick (mCons (mVar 0) (mCons (mVar 1) mNil))) mNil))) mNil))) (t__law_columns_2)
theorem e__law_columns_1 : type_of% @t__law_columns_1.eq_1 := @t__law_columns_1.eq_1
theorem e__law_columns_0 : b__law_columns = mSeq (mSet 1 (mLst (mCons (mC (.str "number")) (mCons (mC (.str "name")) mNil)))) (t__law_columns_1) := rfl
noncomputable def t__law_plan_2 : M Fl := (mRet (bnd (mCons (mLc [6] (gtName 6) (mSrc (mVar 2)) (pur true) (mTup (mCons (mVar 6) (mCons (mCall 1 f__law_columns (mCons (mVar 0) mNil)) mNil)))) mNil) (g1 gTuple)))
theorem e__law_plan_2 : type_of% @t__law_plan_2.eq_1 := @t__law_plan_2.eq_1
noncomputable def t__law_plan_1 : M Fl := mSeq (mSet 2 (bnd (mCons (mLc [5] (gtName 5) (bnd (mCons (mVar 1) mNil) srcR1) (pur true) (mBin gIx (mVar 3) (mBin (gP dMod) (mBin gAdd (mVar 4) (mBin (gP dMul) (mC (.int 3)) (mVar 5))) (mC (.int 8))))) mNil) (g1 gSortS))) (t__law_plan_2)
theorem e__law_plan_1 : type_of% @t__law_plan_1.eq_1 := @t__law_plan_1.eq_1
theorem e__law_plan_0 : b__law_plan = mSeq (mAsg (gtTup 2 (gtCons (gtName 3) (gtCons (gtName 4) gtNil))) (mTup (mCons (mD (mLst (mCons (mC (.str "a")) (mCons (mC (.str "all")) (mCons (mC (.str "k")) (mCons (mC (.str "none")) (mCons (mC (.str "rows")) (mCons (mC (.str "see")) (mCons (mC (.str "t")) (mCons (mC (.str "zzzzzzzz")) mNil)))))))))) (mCons (mCall 2 f__law_take (mCons (mVar 0) (mCons (mC (.int 8)) mNil))) mNil)))) (t__law_plan_1) := rfl
noncomputable def t__law_worth_1 : M Fl := (mRet (mCall 2 f__law_pick (mCons (mVar 0) (mCons (mIf (bnd (mVar 2) asB) (mSl (mVar 3) (pur none) (bnd (mC (.int 4)) asI)) (mBin gAdd (mVar 3) (mLst (mCons (mC .non) mNil)))) mNil))))
theorem e__law_worth_1 : type_of% @t__law_worth_1.eq_1 := @t__law_worth_1.eq_1
theorem e__law_worth_0 : b__law_worth = mSeq (mSet 3 (mIf (bnd (mBin (gEq false) (mVar 1) (mC (.str "number"))) asB) (mLst (mCons (mC (.int 0)) (mCons (mC (.int 1)) (mCons (mC (.int 1000000000)) (mCons (mUn gNeg (mC (.int 1))) (mCons (mC (.int 2)) mNil)))))) (mLst (mCons (mC (.str "a")) (mCons (mC (.str "b")) (mCons (mC (.str "none")) (mCons (mC (.str "zz")) (mCons (mC (.str "put")) mNil)))))))) (t__law_worth_1) := rfl
noncomputable def t__law_check_3 (self : Fn) : M Fl := (mRet (mIf (mAnd (bnd (mBin (gEq false) (mVar 3) (mC (.int 4))) asB) (bnd (mBin (gEq false) (mVar 5) (mVar 7)) asB)) (mTup (mCons (mC (.str "like")) (mCons (mVar 4) (mCons (mVar 6) mNil)))) (mTup (mCons (mC (.str "is")) (mCons (mVar 4) (mCons (mCall 3 f__law_worth (mCons (mVar 0) (mCons (mVar 5) (mCons (mC (.bl false)) mNil)))) mNil))))))
theorem e__law_check_3 : type_of% @t__law_check_3.eq_1 := @t__law_check_3.eq_1
noncomputable def t__law_check_2 (self : Fn) : M Fl := mSeq (mIfS (mAnd (bnd (mBin (gEq false) (mVar 3) (mC (.int 3))) asB) (bnd (mBin (gEq false) (mVar 5) (mC (.str "number"))) asB)) (mRet (mTup (mCons (mC (.str "below")) (mCons (mVar 4) (mCons (mCall 2 f__law_pick (mCons (mVar 0) (mCons (mLst (mCons (mC (.int 1)) (mCons (mC (.int 0)) (mCons (mC (.int 2)) (mCons (mUn gNeg (mC (.int 1))) mNil))))) mNil))) mNil))))) mSkip) (t__law_check_3 self)
theorem e__law_check_2 : type_of% @t__law_check_2.eq_1 := @t__law_check_2.eq_1
noncomputable def t__law_check_1 (self : Fn) : M Fl := mSeq (mIfS (mAnd (bnd (mBin (gP fun x y => dLt y x) (mVar 2) (mC (.int 0))) asB) (bnd (mBin (gP dLt) (mVar 3) (mC (.int 3))) asB)) (mSeq (mPar2 8 9 (mCall 3 self (mCons (mVar 0) (mCons (mVar 1) (mCons (mBin (gP dSub) (mVar 2) (mC (.int 1))) mNil)))) (mCall 3 self (mCons (mVar 0) (mCons (mVar 1) (mCons (mC (.int 0)) mNil))))) (mRet (mBin gIx (mLst (mCons (mTup (mCons (mC (.str "not")) (mCons (mVar 8) mNil))) (mCons (mTup (mCons (mC (.str "and")) (mCons (mVar 8) (mCons (mVar 9) mNil)))) (mCons (mTup (mCons (mC (.str "or")) (mCons (mVar 9) (mCons (mVar 8) mNil)))) mNil)))) (mVar 3)))) mSkip) (t__law_check_2 self)
theorem e__law_check_1 : type_of% @t__law_check_1.eq_1 := @t__law_check_1.eq_1
theorem e__law_check_0 {self : Fn} : b__law_check self = mSeq (mAsg (gtTup 3 (gtCons (gtName 3) (gtCons (gtTup 2 (gtCons (gtName 4) (gtCons (gtName 5) gtNil))) (gtCons (gtTup 2 (gtCons (gtName 6) (gtCons (gtName 7) gtNil))) gtNil)))) (mTup (mCons (mCall 2 f__law_take (mCons (mVar 0) (mCons (mC (.int 6)) mNil))) (mCons (mCall 2 f__law_pick (mCons (mVar 0) (mCons (mVar 1) mNil))) (mCons (mCall 2 f__law_pick (mCons (mVar 0) (mCons (mVar 1) mNil))) mNil))))) (t__law_check_1 self) := rfl
noncomputable def t__law_right_4 : M Fl := (mRet (mTup (mCons (mVar 3) (mCons (mIf (mOr (bnd (mBin (gP dLt) (mVar 4) (mC (.int 3))) asB) (bnd (mBin (gEq false) (mVar 4) (mC (.int 5))) asB)) (bnd (mCons (mVar 5) mNil) (g1 gTuple)) (mVar 2)) mNil))))
theorem e__law_right_4 : type_of% @t__law_right_4.eq_1 := @t__law_right_4.eq_1
noncomputable def t__law_right_3 : M Fl := mSeq (mSet 3 (mIf (bnd (mBin (gP dLt) (mVar 4) (mC (.int 4))) asB) (mC .non) (mCall 3 (f__law_check 3) (mCons (mVar 0) (mCons (mVar 1) (mCons (mC (.int 1)) mNil)))))) (t__law_right_4)
theorem e__law_right_3 : type_of% @t__law_right_3.eq_1 := @t__law_right_3.eq_1
noncomputable def t__law_right_2 : M Fl := mSeq (mSet 2 (bnd (mCons (mLc [6] (gtName 6) (mSrc (mVar 5)) (bnd (mBin (gP fun x y => dLt y x) (mCall 2 f__law_take (mCons (mVar 0) (mCons (mC (.int 3)) mNil))) (mC (.int 0))) asB) (mVar 6)) mNil) (g1 gTuple))) (t__law_right_3)
theorem e__law_right_2 : type_of% @t__law_right_2.eq_1 := @t__law_right_2.eq_1
noncomputable def t__law_right_1 : M Fl := mSeq (mIfS (bnd (mBin (gEq false) (mVar 4) (mC (.int 0))) asB) (mRet (mC .non)) mSkip) (t__law_right_2)
theorem e__law_right_1 : type_of% @t__law_right_1.eq_1 := @t__law_right_1.eq_1
theorem e__law_right_0 : b__law_right = mSeq (mPar2 4 5 (mCall 2 f__law_take (mCons (mVar 0) (mCons (mC (.int 6)) mNil))) (mLc [6, 7] (gtTup 2 (gtCons (gtName 6) (gtCons (gtName 7) gtNil))) (mSrc (mVar 1)) (pur true) (mVar 6))) (t__law_right_1) := rfl
noncomputable def t__law_fits_2 : M Fl := (mRet (mAndV (mIsi .str (mVar 0)) (mAndV (mChain (gP dLe) (gP dLe) (mC (.int 1)) (bnd (mCons (mVar 0) mNil) (g1 gLen)) (mC (.int 8))) (mBin (gEq false) (mMth "str" gStripC (mVar 0) (mCons (mC (.str "abcdefghijklmnopqrstuvwxyz")) mNil)) (mC (.str ""))))))
noncomputable def t__law_fits_1 : M Fl := mSeq (mIfS (bnd (mBin (gEq false) (mVar 1) (mC (.str "number"))) asB) (mRet (mAndV (mIsi .int (mVar 0)) (mAndV (mNotV (mIsi .bool (mVar 0))) (mBin (gP dLe) (bnd (mCons (mVar 0) mNil) (g1 gAbs)) (mBin (gP dPow) (mC (.int 10)) (mC (.int 9))))))) mSkip) (t__law_fits_2)
noncomputable def t__law_is_check_6 (self : Fn) : M Fl := (mRet (mAndV (mCall 2 f__law_fits (mCons (mVar 6) (mCons (mVar 5) mNil))) (mOrV (mBin (gEq false) (mVar 2) (mC (.str "is"))) (mAndV (mBin (gEq false) (mVar 5) (mC (.str "number"))) (mBin (gIsN true) (mVar 6) (mC .non))))))
theorem e__law_is_check_6 : type_of% @t__law_is_check_6.eq_1 := @t__law_is_check_6.eq_1
noncomputable def t__law_is_check_5 (self : Fn) : M Fl := mSeq (mIfS (bnd (mBin (gEq false) (mVar 2) (mC (.str "like"))) asB) (mRet (mAndV (mIsi .str (mVar 6)) (mBin (gEq false) (mGet1 (mVar 4) (mVar 6)) (mVar 5)))) mSkip) (t__law_is_check_6 self)
theorem e__law_is_check_5 : type_of% @t__law_is_check_5.eq_1 := @t__law_is_check_5.eq_1
noncomputable def t__law_is_check_4 (self : Fn) : M Fl := mSeq (mPar2 5 6 (mBin gIx (mVar 4) (mBin gIx (mVar 3) (mC (.int 0)))) (mBin gIx (mVar 3) (mC (.int 1)))) (t__law_is_check_5 self)
theorem e__law_is_check_4 : type_of% @t__law_is_check_4.eq_1 := @t__law_is_check_4.eq_1
noncomputable def t__law_is_check_3 (self : Fn) : M Fl := mSeq (mIfS (mOr (bnd (mBin (gIn true) (mVar 2) (mTup (mCons (mC (.str "is")) (mCons (mC (.str "below")) (mCons (mC (.str "like")) mNil))))) asB) (mOr (bnd (mBin (gEq true) (bnd (mCons (mVar 3) mNil) (g1 gLen)) (mC (.int 2))) asB) (mOr (mNot (bnd (mIsi .str (mBin gIx (mVar 3) (mC (.int 0)))) asB)) (bnd (mBin (gInD true) (mBin gIx (mVar 3) (mC (.int 0))) (mVar 4)) asB)))) (mRet (mC (.bl false))) mSkip) (t__law_is_check_4 self)
theorem e__law_is_check_3 : type_of% @t__law_is_check_3.eq_1 := @t__law_is_check_3.eq_1
noncomputable def t__law_is_check_2 (self : Fn) : M Fl := mSeq (mIfS (bnd (mBin (gIn false) (mVar 2) (mTup (mCons (mC (.str "not")) (mCons (mC (.str "and")) (mCons (mC (.str "or")) mNil))))) asB) (mRet (mAndV (mBin (gEq false) (bnd (mCons (mVar 3) mNil) (g1 gLen)) (mBin gIx (mLst (mCons (mC (.int 2)) (mCons (mC (.int 1)) mNil))) (bnd (mCons (mBin (gEq false) (mVar 2) (mC (.str "not"))) mNil) (g1 gInt)))) (bnd (mCons (mLc [7] (gtName 7) (mSrc (mVar 3)) (pur true) (mCall 2 self (mCons (mVar 0) (mCons (mVar 7) mNil)))) mNil) (g1 (gBls fun bs => bs.all id))))) mSkip) (t__law_is_check_3 self)
theorem e__law_is_check_2 : type_of% @t__law_is_check_2.eq_1 := @t__law_is_check_2.eq_1
noncomputable def t__law_is_check_1 (self : Fn) : M Fl := mSeq (mPar3 2 3 4 (mBin gIx (mVar 1) (mC (.int 0))) (mSl (mVar 1) (bnd (mC (.int 1)) asI) (pur none)) (bnd (mCons (mVar 0) mNil) (g1 gDictT))) (t__law_is_check_2 self)
theorem e__law_is_check_1 : type_of% @t__law_is_check_1.eq_1 := @t__law_is_check_1.eq_1
theorem e__law_is_check_0 {self : Fn} : b__law_is_check self = mSeq (mIfS (mOr (mNot (bnd (mIsi .tuple (mVar 1)) asB)) (mOr (bnd (mBin (gP dLt) (bnd (mCons (mVar 1) mNil) (g1 gLen)) (mC (.int 2))) asB) (mNot (bnd (mIsi .str (mBin gIx (mVar 1) (mC (.int 0)))) asB)))) (mRet (mC (.bl false))) mSkip) (t__law_is_check_1 self) := rfl
noncomputable def t__law_is_right_7 : M Fl := (mRet (mAndV (mBin (gEq false) (mVar 5) (bnd (mVar 5) gSortSet)) (mOrV (mBin (gIsN false) (mBin gIx (mVar 2) (mC (.int 0))) (mC .non)) (mCall 2 (f__law_is_check 60) (mCons (mVar 3) (mCons (mBin gIx (mVar 2) (mC (.int 0))) mNil))))))
theorem e__law_is_right_7 : type_of% @t__law_is_right_7.eq_1 := @t__law_is_right_7.eq_1
noncomputable def t__law_is_right_6 : M Fl := mSeq (mSet 5 (mLc [8] (gtName 8) (mSrc (mBin gIx (mVar 2) (mC (.int 1)))) (pur true) (mMth "list" gIndex (mVar 4) (mCons (mVar 8) mNil)))) (t__law_is_right_7)
theorem e__law_is_right_6 : type_of% @t__law_is_right_6.eq_1 := @t__law_is_right_6.eq_1
noncomputable def t__law_is_right_5 : M Fl := mSeq (mIfS (mNot (bnd (bnd (mCons (mLc [8] (gtName 8) (mSrc (mBin gIx (mVar 2) (mC (.int 1)))) (pur true) (mAndV (mIsi .str (mVar 8)) (mBin (gIn false) (mVar 8) (mVar 4)))) mNil) (g1 (gBls fun bs => bs.all id))) asB)) (mRet (mC (.bl false))) mSkip) (t__law_is_right_6)
theorem e__law_is_right_5 : type_of% @t__law_is_right_5.eq_1 := @t__law_is_right_5.eq_1
noncomputable def t__law_is_right_4 : M Fl := mSeq (mSet 4 (mLc [6, 7] (gtTup 2 (gtCons (gtName 6) (gtCons (gtName 7) gtNil))) (mSrc (mVar 3)) (pur true) (mVar 6))) (t__law_is_right_5)
theorem e__law_is_right_4 : type_of% @t__law_is_right_4.eq_1 := @t__law_is_right_4.eq_1
noncomputable def t__law_is_right_3 : M Fl := mSeq (mSet 3 (mBin gIx (bnd (mCons (mVar 0) mNil) (g1 gDictT)) (mVar 1))) (t__law_is_right_4)
theorem e__law_is_right_3 : type_of% @t__law_is_right_3.eq_1 := @t__law_is_right_3.eq_1
noncomputable def t__law_is_right_2 : M Fl := mSeq (mIfS (mOr (mNot (bnd (mIsi .tuple (mVar 2)) asB)) (mOr (bnd (mBin (gEq true) (bnd (mCons (mVar 2) mNil) (g1 gLen)) (mC (.int 2))) asB) (mNot (bnd (mIsi .tuple (mBin gIx (mVar 2) (mC (.int 1)))) asB)))) (mRet (mC (.bl false))) mSkip) (t__law_is_right_3)
theorem e__law_is_right_2 : type_of% @t__law_is_right_2.eq_1 := @t__law_is_right_2.eq_1
noncomputable def t__law_is_right_1 : M Fl := mSeq (mIfS (bnd (mBin (gIsN false) (mVar 2) (mC .non)) asB) (mRet (mC (.bl true))) mSkip) (t__law_is_right_2)
theorem e__law_is_right_1 : type_of% @t__law_is_right_1.eq_1 := @t__law_is_right_1.eq_1
theorem e__law_is_right_0 : b__law_is_right = mSeq (mIfS (mOr (mNot (bnd (mIsi .str (mVar 1)) asB)) (bnd (mBin (gInD true) (mVar 1) (bnd (mCons (mVar 0) mNil) (g1 gDictT))) asB)) (mRet (mC (.bl false))) mSkip) (t__law_is_right_1) := rfl
noncomputable def t__law_odd_3 : M Fl := (mRet (mVar 2))
theorem e__law_odd_3 : type_of% @t__law_odd_3.eq_1 := @t__law_odd_3.eq_1
noncomputable def t__law_odd_2 : M Fl := mSeq (mFor (gtName 3) (bnd (mCons (mCall 2 f__law_pick (mCons (mVar 0) (mCons (mLst (mCons (mC (.int 0)) (mCons (mC (.int 0)) (mCons (mC (.int 1)) (mCons (mC (.int 15)) mNil))))) mNil))) mNil) srcR1) (mSet 2 (mCall 2 f__law_pick (mCons (mVar 0) (mCons (mLst (mCons (mTup (mCons (mVar 2) mNil)) (mCons (mD (mLst (mCons (mVar 2) mNil))) (mCons (mD (mD1 "a" (mVar 2))) (mCons (mTup (mCons (mVar 2) (mCons (mTup mNil) mNil))) mNil))))) mNil))))) (t__law_odd_3)
theorem e__law_odd_2 : type_of% @t__law_odd_2.eq_1 := @t__law_odd_2.eq_1
noncomputable def t__law_odd_1 : M Fl := mSeq (mSet 2 (mCall 2 f__law_pick (mCons (mVar 0) (mCons (mVar 1) mNil)))) (t__law_odd_2)
theorem e__law_odd_1 : type_of% @t__law_odd_1.eq_1 := @t__law_odd_1.eq_1
theorem e__law_odd_0 : b__law_odd = mSeq (mSet 1 (mLst (mCons (mC .non) (mCons (mC (.bl true)) (mCons (mC (.bl false)) (mCons (mC (.int 0)) (mCons (mC (.str "")) (mCons (mC (.str "k")) (mCons (mC (.str "none")) (mCons (mTup mNil) (mCons (mD (mLst mNil)) (mCons (mD mDn) (mCons (mTup (mCons (mC .non) mNil)) (mCons (mTup (mCons (mC .non) (mCons (mC .non) mNil))) (mCons (mTup (mCons (mC (.str "is")) (mCons (mC (.str "k")) (mCons (mC .non) mNil)))) (mCons (mTup (mCons (mTup mNil) (mCons (mTup mNil) mNil))) mNil)))))))))))))))) (t__law_odd_1) := rfl
noncomputable def t__law_bent_6 : M Fl := (mRet (mCall 2 f__law_pick (mCons (mVar 0) (mCons (mBin gAdd (mVar 2) (mLc [8] (gtName 8) (mSrc (mVar 3)) (pur true) (mTup (mCons (mVar 8) (mCons (mVar 5) mNil))))) mNil))))
theorem e__law_bent_6 : type_of% @t__law_bent_6.eq_1 := @t__law_bent_6.eq_1
noncomputable def t__law_bent_5 : M Fl := mSeq (mSet 3 (mLst (mCons (mVar 7) (mCons (mTup (mCons (mC (.str "not")) (mCons (mVar 4) mNil))) (mCons (mTup (mCons (mC (.str "is")) (mCons (mC (.str "k")) (mCons (mVar 7) mNil)))) (mCons (mTup (mCons (mC (.str "below")) (mCons (mC (.str "k")) (mCons (mC .non) mNil)))) (mCons (mTup (mCons (mC (.str "like")) (mCons (mC (.str "k")) (mCons (mC (.str "x")) mNil)))) (mCons (mTup (mCons (mC (.str "is")) (mCons (mC (.str "x")) mNil))) mNil)))))))) (t__law_bent_6)
theorem e__law_bent_5 : type_of% @t__law_bent_5.eq_1 := @t__law_bent_5.eq_1
noncomputable def t__law_bent_4 : M Fl := mSeq (mSet 2 (mBin gAdd (mLc [8] (gtName 8) (mSrc (mVar 2)) (pur true) (mTup (mCons (mVar 4) (mCons (mVar 8) mNil)))) (mLst (mCons (mBin gAdd (mVar 1) (mTup (mCons (mC (.int 0)) mNil))) (mCons (mD (mSl (mVar 1) (pur none) (bnd (mC (.int 1)) asI))) (mCons (mD (bnd (mCons (mVar 1) mNil) (g1 gList))) (mCons (mTup (mCons (mVar 5) (mCons (mVar 4) mNil))) mNil))))))) (t__law_bent_5)
theorem e__law_bent_4 : type_of% @t__law_bent_4.eq_1 := @t__law_bent_4.eq_1
noncomputable def t__law_bent_3 : M Fl := mSeq (mSet 2 (mLst (mCons (bnd (mVar 5) gBack) (mCons (mD (mBin gAdd (mVar 5) (mSl (mVar 5) (pur none) (bnd (mC (.int 1)) asI)))) (mCons (mD (mBin gAdd (mSl (mVar 5) (pur none) (bnd (mVar 6) asI)) (mSl (mVar 5) (bnd (mBin gAdd (mVar 6) (mC (.int 1))) asI) (pur none)))) (mCons (mD (bnd (mCons (mVar 5) mNil) (g1 gList))) (mCons (mD (mBin gAdd (mBin gAdd (mSl (mVar 5) (pur none) (bnd (mVar 6) asI)) (mTup (mCons (mVar 7) mNil))) (mSl (mVar 5) (bnd (mVar 6) asI) (pur none)))) mNil))))))) (t__law_bent_4)
theorem e__law_bent_3 : type_of% @t__law_bent_3.eq_1 := @t__law_bent_3.eq_1
noncomputable def t__law_bent_2 : M Fl := mSeq (mPar2 6 7 (mCall 2 f__law_take (mCons (mVar 0) (mCons (mBin gAdd (bnd (mCons (mVar 5) mNil) (g1 gLen)) (mC (.int 1))) mNil))) (mCall 1 f__law_odd (mCons (mVar 0) mNil))) (t__law_bent_3)
theorem e__law_bent_2 : type_of% @t__law_bent_2.eq_1 := @t__law_bent_2.eq_1
noncomputable def t__law_bent_1 : M Fl := mSeq (mAsg (gtTup 2 (gtCons (gtName 4) (gtCons (gtName 5) gtNil))) (mVar 1)) (t__law_bent_2)
theorem e__law_bent_1 : type_of% @t__law_bent_1.eq_1 := @t__law_bent_1.eq_1
theorem e__law_bent_0 : b__law_bent = mSeq (mIfS (bnd (mBin (gIsN false) (mVar 1) (mC .non)) asB) (mRet (mCall 1 f__law_odd (mCons (mVar 0) mNil))) mSkip) (t__law_bent_1) := rfl
noncomputable def t_law_1 (A : FA) : M Fl := (mRet (mC (.bl true)))
theorem e_law_1 : type_of% @t_law_1.eq_1 := @t_law_1.eq_1
theorem e_law_0 {A : FA} : b_law A = mSeq (mFor (gtName 1) (bnd (mCons (mBin gAdd (mC (.int 1)) (bnd (mCons (mC (.int 4)) (mCons (bnd (mCons (mVar 0) mNil) (g1 gLen)) mNil)) (g2I min2))) mNil) srcR1) (mSeq (mSet 2 (mCall 2 f__law_hand (mCons (mVar 0) (mCons (mVar 1) mNil)))) (mSeq (mSet 3 (mCall 2 f__law_plan (mCons (mVar 2) (mCons (mBin gAdd (mC (.int 1)) (mCall 2 f__law_take (mCons (mVar 2) (mCons (mC (.int 3)) mNil)))) mNil)))) (mSeq (mSet 4 (bnd (mCons (mVar 3) mNil) (g1 gRepr))) (mSeq (mFor (gtName 5) (bnd (mCons (mC (.int 14)) mNil) srcR1) (mSeq (mAsg (gtTup 2 (gtCons (gtName 9) (gtCons (gtName 10) gtNil))) (mCall 2 f__law_pick (mCons (mVar 2) (mCons (mVar 3) mNil)))) (mSeq (mSet 6 (mCall 2 f__law_right (mCons (mVar 2) (mCons (mVar 10) mNil)))) (mSeq (mSet 7 (mCall 2 f__law_pick (mCons (mVar 2) (mCons (mLst (mCons (mVar 9) (mCons (mVar 9) (mCons (mBin gIx (mBin gIx (mVar 3) (mC (.int 0))) (mC (.int 0))) (mCons (mC (.str "nobody")) (mCons (mCall 1 f__law_odd (mCons (mVar 2) mNil)) (mCons (mVar 10) mNil))))))) mNil)))) (mFor (gtName 8) (mSrc (mTup (mCons (mVar 6) (mCons (mCall 2 f__law_bent (mCons (mVar 2) (mCons (mVar 6) mNil))) (mCons (mCall 2 f__law_bent (mCons (mVar 2) (mCons (mVar 6) mNil))) mNil))))) (mFor (gtName 11) (mSrc (mTup (mCons (mVar 9) (mCons (mVar 7) mNil)))) (mSeq (mSet 12 (mCall 3 (f_is_right A) (mCons (mVar 3) (mCons (mVar 11) (mCons (mVar 8) mNil))))) (mIfS (mOr (mNot (bnd (mIsi .bool (mVar 12)) asB)) (bnd (mBin (gEq true) (mVar 12) (mCall 3 f__law_is_right (mCons (mVar 3) (mCons (mVar 11) (mCons (mVar 8) mNil))))) asB)) (mRet (mC (.bl false))) mSkip)))))))) (mIfS (bnd (mBin (gEq true) (bnd (mCons (mVar 3) mNil) (g1 gRepr)) (mVar 4)) asB) (mRet (mC (.bl false))) mSkip)))))) (t_law_1 A) := rfl
end G

set_option Elab.async false
set_option linter.all false
set_option maxRecDepth 1000000
set_option maxHeartbeats 4000000
/- ev9 -/
namespace G
variable [Wld]
open PySem PySem.Spec PyProof.Rows L2
local macro_rules
  | `(tactic| simp! only) => `(tactic| simp only [ev0, ev1, ev2, ev3, ev4, ev5, ev6, ev7, ev8, ev9, wp_ix_refC, wp_setItE, List.map_cons, List.map_nil, List.replicate, List.cons_append, List.nil_append, List.length_cons, List.length_nil, List.set_cons_succ, List.set_cons_zero, List.getElem?_cons_zero, List.getElem?_cons_succ, Option.map_some, Option.bind_some, List.all_cons, List.all_nil, List.isEmpty_nil, List.isEmpty_cons, eq_self, if_true, if_false, ite_true, ite_false, Option.some.injEq, exists_eq_left', exists_eq_left, Nat.reduceAdd, Nat.reduceLT, Nat.reduceLeDiff, Int.reduceLE, Int.reduceLT, Int.reduceNeg, Int.reducePow, Int.reduceToNat])
  | `(tactic| simp! only [$xs,*]) => `(tactic| simp only [ev0, ev1, ev2, ev3, ev4, ev5, ev6, ev7, ev8, ev9, wp_ix_refC, wp_setItE, List.map_cons, List.map_nil, List.replicate, List.cons_append, List.nil_append, List.length_cons, List.length_nil, List.set_cons_succ, List.set_cons_zero, List.getElem?_cons_zero, List.getElem?_cons_succ, Option.map_some, Option.bind_some, List.all_cons, List.all_nil, List.isEmpty_nil, List.isEmpty_cons, eq_self, if_true, if_false, ite_true, ite_false, Option.some.injEq, exists_eq_left', exists_eq_left, Nat.reduceAdd, Nat.reduceLT, Nat.reduceLeDiff, Int.reduceLE, Int.reduceLT, Int.reduceNeg, Int.reducePow, Int.reduceToNat, $xs,*])
/-! ### the hand -/
theorem small_of {i : Int} (h1 : -(2 ^ 64) < i) (h2 : i < 2 ^ 64) : small i = true := by unfold small; simp only [decide_eq_true h1, decide_eq_true h2]; rfl
theorem dMulR {i j : Int} (h : small j = true) : dMul (.int i) (.int j) = some (.int (i * j)) := dMul_int (by rw [h, Bool.or_true])
theorem dMulL {i j : Int} (h : small i = true) : dMul (.int i) (.int j) = some (.int (i * j)) := dMul_int (by rw [h, Bool.true_or])
def Pt (n k : Nat) (S : Sto) : Prop := ∃ a m c : Int, S[n]? = some (.lst [.int a, .int m, .int c]) ∧ 0 ≤ a ∧ 0 ≤ m ∧ m < 2305843009213693951 ∧ 0 ≤ c ∧ c ≤ k
/-- S' is S but at n -/
structure Dr (n k : Nat) (S S' : Sto) : Prop where
  len : S'.length = S.length
  at_ : ∀ j, j ≠ n → S'[j]? = S[j]?
  pt : Pt n k S'
theorem Pt.mono {n k j : Nat} {S : Sto} (h : Pt n k S) (hj : k ≤ j) : Pt n j S := let ⟨a, m, c, h1, h2, h3, h4, h5, h6⟩ := h; ⟨a, m, c, h1, h2, h3, h4, h5, by omega⟩
theorem Pt.lt {n k : Nat} {S : Sto} (h : Pt n k S) : n < S.length := let ⟨_, _, _, h1, _⟩ := h; (List.getElem?_eq_some_iff.mp h1).1
theorem Dr.refl {n k : Nat} {S : Sto} (h : Pt n k S) : Dr n k S S := ⟨rfl, fun _ _ => rfl, h⟩
theorem Dr.trans {n k j : Nat} {S S1 S2 : Sto} (a : Dr n k S S1) (b : Dr n j S1 S2) : Dr n j S S2 := ⟨b.len.trans a.len, fun i hi => (b.at_ i hi).trans (a.at_ i hi), b.pt⟩
theorem Dr.mono {n k j : Nat} {S S' : Sto} (h : Dr n k S S') (hj : k ≤ j) : Dr n j S S' := ⟨h.len, h.at_, h.pt.mono hj⟩
theorem hand_ok {S : Sto} (ns : List Int) (j : Nat) (h1 : j ≤ 63) : Fp f__law_hand [.d (.lst (ns.map D.int)), .d (.int (j : Int))] S fun r S' => r = .d (.ref S.length) ∧ ∃ o, S' = S ++ [o] ∧ Pt S.length 0 S' := by
  generalize hk : (j : Int) = k
  have h0 : 0 ≤ k := by omega
  have h2 : k ≤ 63 := by omega
  have sk : small k = true := small_of (by omega) (by omega)
  have s1 : small 6143 = true := by rfl
  have s2 : small 48271 = true := by rfl
  have s3 : small 0 = true := by rfl
  have s4 : small 1 = true := by rfl
  have fin : ∀ a c : Int, 0 ≤ a → ∃ o, S ++ [O.lst [.int a, .int ((c % 2305843009213693951 + 6143 * k * k + 19) * 48271 % 2305843009213693921), .int 0]] = S ++ [o] ∧ Pt S.length 0 (S ++ [O.lst [.int a, .int ((c % 2305843009213693951 + 6143 * k * k + 19) * 48271 % 2305843009213693921), .int 0]]) := fun a c ha => by
    have u := Int.emod_lt_of_pos ((c % 2305843009213693951 + 6143 * k * k + 19) * 48271) (show (0 : Int) < 2305843009213693921 by omega)
    have v := Int.emod_nonneg ((c % 2305843009213693951 + 6143 * k * k + 19) * 48271) (show (2305843009213693921 : Int) ≠ 0 by omega)
    generalize (c % 2305843009213693951 + 6143 * k * k + 19) * 48271 % 2305843009213693921 = m at u v ⊢
    exact ⟨_, rfl, a, m, 0, by simp, ha, v, by omega, by omega, by omega⟩
  have tail : ∀ c : Int, Wp t__law_hand_2 [some (.d (.lst (ns.map D.int))), some (.d (.int k)), some (.d (.int c)), none] S (flQ fun r S' => r = .d (.ref S.length) ∧ ∃ o, S' = S ++ [o] ∧ Pt S.length 0 S') := fun c => by
    simp! only [e__law_hand_2, e__law_hand_3, dMod_int (show (0 : Int) < 2305843009213693951 by omega), dMod_int (show (0 : Int) < 2305843009213693921 by omega), dMulL s1, dMulR sk, dMulR s2, dPow_int (show (0 : Int) ≤ 18 ∧ (18 : Int) ≤ 1000 ∧ (10 : Int).natAbs < 1000 by omega)]
    have ha : 0 ≤ (if c < 0 then -c else c) := by split <;> omega
    generalize (if c < 0 then -c else c) = a at ha
    by_cases hc : (1000000000000000000 : Int) ≤ a
    · rw [decide_eq_true hc]
      simp! only [dMulR s4]
      exact fin (a * 1) c (by omega)
    · rw [decide_eq_false hc]
      simp! only [dMulR s3]
      exact fin (a * 0) c (by omega)
  unfold f__law_hand
  rw [fp_runF]
  simp! only [e__law_hand_0, e__law_hand_1]
  split
  · rename_i hl
    subst hk
    have hl' : j < ns.length := by simpa using hl
    refine ⟨.int ns[j], by rw [atD_ofNat]; simp [hl'], ?_⟩
    exact tail ns[j]
  · exact tail 0
theorem set_dr {n k : Nat} {S : Sto} {a m c : Int} (hn : n < S.length) (h1 : 0 ≤ a) (h2 : 0 ≤ m) (h3 : m < 2305843009213693951) (h4 : 0 ≤ c) (h5 : c ≤ k) : Dr n k S (S.set n (.lst [.int a, .int m, .int c])) :=
  ⟨by simp, fun j hj => by rw [List.getElem?_set_ne (Ne.symm hj)], ⟨a, m, c, by simp [hn], h1, h2, h3, h4, h5⟩⟩
theorem take_ok {n k : Nat} {S : Sto} {m : Int} (hS : Pt n k S) (hk : k ≤ 1000000000) (h1 : 1 ≤ m) (h2 : m < 1073741824) : Fp f__law_take [.d (.ref n), .d (.int m)] S fun r S' => ∃ i : Nat, r = .d (.int i) ∧ (i : Int) < m ∧ Dr n (k + 1) S S' := by
  have hn := hS.lt
  obtain ⟨a, x, c, hc, a0, x0, x1, c0, c1⟩ := hS
  have hm : (0 : Int) < m := by omega
  have nat : ∀ z : Int, 0 ≤ z → ∃ i : Nat, z = i := fun z h => ⟨z.toNat, by omega⟩
  unfold f__law_take
  rw [fp_runF]
  have i0 : ixN 3 0 = some 0 := by rfl
  have i2 : ixN 3 2 = some 2 := by rfl
  have sc : small (c + 1) = true := small_of (by omega) (by omega)
  have s1 : small 104729 = true := by rfl
  have s2 : small 69621 = true := by rfl
  have s3 : small 90001 = true := by rfl
  have at1 : ∀ u : Int, atD [D.int u, D.int x, D.int (c + 1)] 1 = some (D.int x) := fun u => rfl
  have at2 : ∀ u : Int, atD [D.int u, D.int x, D.int (c + 1)] 2 = some (D.int (c + 1)) := fun u => rfl
  have sx : ∀ y : Int, small (y % 2305843009213693921) = true := fun y => by
    have u := Int.emod_lt_of_pos y (show (0 : Int) < 2305843009213693921 by omega)
    have v := Int.emod_nonneg y (show (2305843009213693921 : Int) ≠ 0 by omega)
    exact small_of (by omega) (by omega)
  simp! only [b__law_take, hc, i0, i2, List.getElem?_set_self hn, dMod_int hm, dDiv_int (⟨hm, h2⟩ : 0 < m ∧ m < 1073741824), ixO_lst, at1, at2, dMulL s1, dMulR sc, dMulR s2, dMulL s3, dMod_int (show (0 : Int) < 2305843009213693921 by omega), dMod_int (show (0 : Int) < 2305843009213693907 by omega), dMod_int (show (0 : Int) < 999983 by omega), dMulL (sx _), dDiv_int (show (0 : Int) < 89 ∧ (89 : Int) < 1073741824 by omega), dDiv_int (show (0 : Int) < 999979 ∧ (999979 : Int) < 1073741824 by omega)]
  by_cases ha : 0 < a
  · rw [if_pos (decide_eq_true ha)]
    obtain ⟨i, hi⟩ := nat (a % m) (Int.emod_nonneg _ (by omega))
    have := Int.emod_lt_of_pos a hm
    refine ⟨i, by rw [hi], by omega, set_dr hn ?_ x0 x1 c0 (by omega)⟩
    exact Int.ediv_nonneg a0 (by omega)
  · rw [if_neg (by simpa using ha)]
    generalize ((x + 104729 * (c + 1) * (c + 1) + 13) * 69621 % 2305843009213693921 * ((x + 104729 * (c + 1) * (c + 1) + 13) * 69621 % 2305843009213693921 % 999983 + 90001 * (c + 1)) % 2305843009213693907 / 89 + (x + 104729 * (c + 1) * (c + 1) + 13) * 69621 % 2305843009213693921 * ((x + 104729 * (c + 1) * (c + 1) + 13) * 69621 % 2305843009213693921 % 999983 + 90001 * (c + 1)) % 2305843009213693907 / 999979) = y
    obtain ⟨i, hi⟩ := nat (y % m) (Int.emod_nonneg _ (by omega))
    have := Int.emod_lt_of_pos y hm
    exact ⟨i, by rw [hi], by omega, set_dr hn a0 x0 x1 (by omega) (by omega)⟩
/-! ### picked -/
/-- what is picked from: a new list, a tuple, a locked list -/
def Some3 (s : Sl) (ds : List D) : Prop := s = .brw (.lst ds) ∨ s = .d (.tup ds) ∨ s = .d (.lst ds)
theorem pick_ok {n k : Nat} {S : Sto} {s : Sl} {ds : List D} (hs : Some3 s ds) (h1 : 1 ≤ ds.length) (h2 : ds.length ≤ 100000) (hS : Pt n k S) (hk : k ≤ 1000000000) : Fp f__law_pick [.d (.ref n), s] S fun r S' => (∃ d ∈ ds, r = .d d) ∧ Dr n (k + 1) S S' := by
  unfold f__law_pick
  rw [fp_runF]
  rcases hs with rfl | rfl | rfl
  all_goals
    simp! only [b__law_pick]
    refine (take_ok hS (by omega) (by omega) (by omega)).mono ?_
    rintro r S1 ⟨i, rfl, hi, dr⟩
    simp! only
    have hi' : i < ds.length := by omega
    refine ⟨ds[i], by rw [atD_ofNat]; simp [hi'], ?_⟩
    exact ⟨⟨ds[i], List.getElem_mem hi', rfl⟩, dr⟩
end G

set_option Elab.async false
set_option linter.all false
set_option maxRecDepth 1000000
set_option maxHeartbeats 4000000
/- ev9 -/
namespace G
variable [Wld]
open PySem PySem.Spec PyProof.Rows L2
local macro_rules
  | `(tactic| simp! only) => `(tactic| simp only [ev0, ev1, ev2, ev3, ev4, ev5, ev6, ev7, ev8, ev9, wp_ix_refC, wp_setItE, List.map_cons, List.map_nil, List.replicate, List.cons_append, List.nil_append, List.length_cons, List.length_nil, List.set_cons_succ, List.set_cons_zero, List.getElem?_cons_zero, List.getElem?_cons_succ, Option.map_some, Option.bind_some, List.all_cons, List.all_nil, List.isEmpty_nil, List.isEmpty_cons, eq_self, if_true, if_false, ite_true, ite_false, Option.some.injEq, exists_eq_left', exists_eq_left, Nat.reduceAdd, Nat.reduceLT, Nat.reduceLeDiff, Int.reduceLE, Int.reduceLT, Int.reduceNeg, Int.reducePow, Int.reduceToNat])
  | `(tactic| simp! only [$xs,*]) => `(tactic| simp only [ev0, ev1, ev2, ev3, ev4, ev5, ev6, ev7, ev8, ev9, wp_ix_refC, wp_setItE, List.map_cons, List.map_nil, List.replicate, List.cons_append, List.nil_append, List.length_cons, List.length_nil, List.set_cons_succ, List.set_cons_zero, List.getElem?_cons_zero, List.getElem?_cons_succ, Option.map_some, Option.bind_some, List.all_cons, List.all_nil, List.isEmpty_nil, List.isEmpty_cons, eq_self, if_true, if_false, ite_true, ite_false, Option.some.injEq, exists_eq_left', exists_eq_left, Nat.reduceAdd, Nat.reduceLT, Nat.reduceLeDiff, Int.reduceLE, Int.reduceLT, Int.reduceNeg, Int.reducePow, Int.reduceToNat, $xs,*])
/-! ### columns, plans -/
abbrev Cols := List (Str × Bool)
abbrev Lay := List (Str × Cols)
def kindS (b : Bool) : Str := if b then "number" else "name"
def colD (c : Str × Bool) : D := .tup [.str c.1, .str (kindS c.2)]
def colsD (cs : Cols) : D := .tup (cs.map colD)
def tabD (t : Str × Cols) : D := .tup [.str t.1, colsD t.2]
def layD (ts : Lay) : D := .tup (ts.map tabD)
def NmOk (x : Str) : Prop := ascB x = true ∧ x.length ≤ 8
structure ColsOk (cs : Cols) (m : Nat) : Prop where
  lo : 1 ≤ cs.length
  hi : cs.length ≤ m
  nm : ∀ c ∈ cs, NmOk c.1
  nd : (cs.map (·.1)).Nodup
theorem ColsOk.mono {cs : Cols} {m l : Nat} (h : ColsOk cs m) (hl : m ≤ l) : ColsOk cs l := ⟨h.lo, Nat.le_trans h.hi hl, h.nm, h.nd⟩
structure GoodLay (ts : Lay) : Prop where
  len : 1 ≤ ts.length ∧ ts.length ≤ 3
  nd : (ts.map (·.1)).Nodup
  nm : ∀ t ∈ ts, NmOk t.1
  cl : ∀ t ∈ ts, ColsOk t.2 4
def xyz : List Str := ["x", "y", "z"]
theorem xyz_ok : ∀ x ∈ xyz, NmOk x := by unfold NmOk; decide +kernel
theorem k_ok : NmOk "k" := by unfold NmOk; decide +kernel
theorem kinds_mem {d : D} (h : d ∈ ([.str "number", .str "name"] : List D)) : ∃ b, d = .str (kindS b) := by
  simp only [List.mem_cons, List.not_mem_nil, or_false] at h
  rcases h with rfl | rfl
  · exact ⟨true, rfl⟩
  · exact ⟨false, rfl⟩
theorem cut_xyz {i : Nat} (h : i ≤ 3) : cutD [.str "x", .str "y", .str "z"] none (some (i : Int)) = (xyz.take i).map D.str := by
  have : i = 0 ∨ i = 1 ∨ i = 2 ∨ i = 3 := by omega
  rcases this with rfl | rfl | rfl | rfl <;> rfl
theorem kxyz_nd : ∀ i < 4, ((("k" : Str) :: xyz.take i).Nodup) := by decide +kernel
theorem columns_ok {n k : Nat} {S : Sto} (hS : Pt n k S) (hk : k ≤ 900000000) : Fp f__law_columns [.d (.ref n)] S fun r S' => ∃ cs, r = .d (colsD cs) ∧ ColsOk cs 4 ∧ Dr n (k + 5) S S' := by
  unfold f__law_columns
  rw [fp_runF]
  simp! only [e__law_columns_0, e__law_columns_1]
  refine (pick_ok (.inl rfl) (by simp) (by simp) hS (by omega)).mono ?_
  rintro r S1 ⟨⟨d, hd, rfl⟩, dr1⟩
  obtain ⟨b, rfl⟩ := kinds_mem hd
  simp! only [e__law_columns_2]
  refine (take_ok dr1.pt (by omega) (by omega) (by omega)).mono ?_
  rintro r S2 ⟨i, rfl, hi, dr2⟩
  simp! only
  rw [cut_xyz (by omega)]
  refine wp_forL' (fun pre post e S3 => ∃ cs : Cols, ∃ x, e = [some (.d (.ref n)), some (.own (.lst [.str "number", .str "name"])), some (.own (.lst (cs.map colD))), x] ∧ cs.length = pre.length + 1 ∧ (∀ c ∈ cs, NmOk c.1) ∧ cs.map (·.1) = ("k" : Str) :: (xyz.take i).take pre.length ∧ Dr n (k + 2 + pre.length) S S3) ⟨[("k", b)], none, rfl, rfl, ?_, rfl, dr1.trans dr2⟩ ?_ ?_
  · intro c hc
    cases List.mem_singleton.mp hc
    exact k_ok
  · rintro pre d post e S3 hp ⟨cs, x, rfl, hl, hn, hnd, dr⟩
    have hlen : pre.length + post.length + 1 ≤ 3 := by
      have := congrArg List.length hp
      simp [xyz] at this
      omega
    have hd : d ∈ (xyz.take i).map D.str := by rw [hp]; simp
    obtain ⟨nm, hm, rfl⟩ := List.mem_map.mp hd
    have hat : (xyz.take i)[pre.length]? = some nm := by
      have := congrArg (fun l : List D => l[pre.length]?) hp
      simp only [List.getElem?_map, List.getElem?_append_right (Nat.le_refl _), Nat.sub_self, List.getElem?_cons_zero] at this
      obtain ⟨y, hy, e⟩ := Option.map_eq_some_iff.mp this
      cases e; exact hy
    refine ⟨_, gt_name.mpr ⟨by simp, rfl⟩, ?_⟩
    simp! only
    refine (pick_ok (.inl rfl) (by simp) (by simp) dr.pt (by omega)).mono ?_
    rintro r S4 ⟨⟨d2, hd2, rfl⟩, dr4⟩
    obtain ⟨b2, rfl⟩ := kinds_mem hd2
    simp! only
    refine ⟨by rw [List.length_map]; omega, cs ++ [(nm, b2)], some (.d (.str nm)), ?_, by simp; omega, ?_, ?_, ?_⟩
    · rw [List.map_append]; rfl
    · intro c hc
      rcases List.mem_append.mp hc with hc | hc
      · exact hn c hc
      · cases List.mem_singleton.mp hc
        exact xyz_ok _ (List.mem_of_mem_take hm)
    · rw [List.map_append, hnd, List.length_append, List.length_singleton, List.take_add_one, hat]; rfl
    · rw [List.length_append]
      exact dr.trans dr4
  · rintro e S3 ⟨cs, x, rfl, hl, hn, hnd, dr⟩
    have hlen : ((xyz.take i).map D.str).length ≤ 3 := by simp [xyz]; omega
    simp! only [e__law_columns_3]
    refine ⟨cs, rfl, ⟨by omega, by omega, hn, ?_⟩, dr.mono (by omega)⟩
    rw [hnd, List.take_of_length_le (by rw [List.length_map]; exact Nat.le_refl _)]
    exact kxyz_nd i (by omega)
def pool8 : List Str := ["a", "all", "k", "none", "rows", "see", "t", "zzzzzzzz"]
theorem pool8_ok : ∀ x ∈ pool8, NmOk x := by unfold NmOk; decide +kernel
def xsOf (i m : Nat) : List Str := (List.range m).map fun t => pool8.getD ((i + 3 * t) % 8) "a"
theorem xsOf_ok : ∀ i < 8, ∀ m < 4, (xsOf i m).Nodup ∧ ∀ x ∈ xsOf i m, x ∈ pool8 := by decide +kernel
theorem srtS_perm (xs : List Str) : (srtS xs).Perm xs := List.mergeSort_perm xs leS
theorem strsOf_map : ∀ xs : List Str, strsOf (xs.map D.str) = some xs
  | [] => rfl
  | x :: xs => by rw [List.map_cons]; unfold strsOf; rw [strsOf_map xs]; rfl
theorem rngD_len (n : Nat) : (rngD 0 n).length = n := by simp [rngD]
theorem at_mid {α : Type} {l pre post : List α} {d : α} (h : l = pre ++ d :: post) : l[pre.length]? = some d := by rw [h]; simp
theorem rng_at {n : Nat} {pre post : List D} {d : D} (hp : rngD 0 n = pre ++ d :: post) : d = .int (pre.length : Nat) ∧ pre.length + post.length + 1 = n := by
  have hl := congrArg List.length hp
  rw [rngD_len] at hl
  simp at hl
  refine ⟨?_, by omega⟩
  have := at_mid hp
  unfold rngD at this
  rw [List.getElem?_map, List.getElem?_range (by omega)] at this
  simpa using this.symm
theorem plan_ok {n k : Nat} {S : Sto} {m : Nat} (hm1 : 1 ≤ m) (hm3 : m ≤ 3) (hS : Pt n k S) (hk : k ≤ 800000000) : Fp f__law_plan [.d (.ref n), .d (.int (m : Int))] S fun r S' => ∃ ts : Lay, r = .d (layD ts) ∧ GoodLay ts ∧ Dr n (k + 16) S S' := by
  have e8 : ([.str "a", .str "all", .str "k", .str "none", .str "rows", .str "see", .str "t", .str "zzzzzzzz"] : List D) = pool8.map D.str := rfl
  unfold f__law_plan
  rw [fp_runF]
  simp! only [e__law_plan_0]
  refine (take_ok hS (by omega) (by omega) (by omega)).mono ?_
  rintro r S1 ⟨i, rfl, hi, dr1⟩
  simp! only [e__law_plan_1]
  rw [e8]
  refine ⟨⟨by omega, by omega⟩, ?_⟩
  refine wp_compL (fun pre post acc S' => S' = S1 ∧ acc = (xsOf i pre.length).map D.str) (fun _ => wat_nil _ _) ⟨rfl, rfl⟩ ?_ ?_
  · rintro pre d post acc S' hp ⟨rfl, rfl⟩
    obtain ⟨rfl, hl⟩ := rng_at hp
    refine ⟨_, gt_name.mpr ⟨by simp, rfl⟩, ?_⟩
    simp! only [dMulL (show small 3 = true from rfl), dMod_int (show (0 : Int) < 8 by omega)]
    have e1 : ((i : Int) + 3 * (pre.length : Int)) % 8 = (((i + 3 * pre.length) % 8 : Nat) : Int) := by omega
    have h8 : (i + 3 * pre.length) % 8 < pool8.length := by show _ < 8; omega
    rw [e1]
    refine ⟨.str (pool8[(i + 3 * pre.length) % 8]), by rw [atD_ofNat, List.getElem?_map, List.getElem?_eq_getElem h8]; rfl, ?_⟩
    unfold xsOf
    rw [List.length_append, List.length_singleton, List.range_succ, List.map_append, List.map_append]
    congr 1
    simp only [List.map_cons, List.map_nil]
    rw [List.getD_eq_getElem?_getD, List.getElem?_eq_getElem h8]
    rfl
  · rintro acc S' ⟨rfl, rfl⟩
    simp! only [strsOf_map]
    rw [rngD_len, show ((m : Int)).toNat = m from rfl]
    obtain ⟨nd, sub⟩ := xsOf_ok i (by omega) m (by omega)
    have hlen : (xsOf i m).length = m := by unfold xsOf; simp
    generalize xsOf i m = xs at nd sub hlen
    have px := srtS_perm xs
    refine ⟨by omega, ?_⟩
    simp! only [e__law_plan_2]
    refine wp_compL (fun pre post acc S3 => ∃ ts : Lay, pre = ts.map (fun t => D.str t.1) ∧ acc = ts.map tabD ∧ (∀ t ∈ ts, ColsOk t.2 4) ∧ Dr n (k + 1 + 5 * ts.length) S S3) (fun _ => wat_one rfl) ⟨[], rfl, rfl, by simp, dr1⟩ ?_ ?_
    · rintro pre d post acc S3 hp ⟨ts, rfl, rfl, hc, dr⟩
      have hl : ts.length + post.length + 1 = m := by
        have := congrArg List.length hp
        simp [px.length_eq, hlen] at this
        omega
      have hd : d ∈ (srtS xs).map D.str := by rw [hp]; simp
      obtain ⟨nm, hnm, rfl⟩ := List.mem_map.mp hd
      refine ⟨_, gt_name.mpr ⟨by simp, rfl⟩, ?_⟩
      simp! only
      refine (columns_ok dr.pt (by omega)).mono ?_
      rintro r S4 ⟨cs, rfl, hcs, dr4⟩
      simp! only
      refine ⟨ts ++ [(nm, cs)], by simp, by simp [tabD], ?_, ?_⟩
      · intro t ht
        rcases List.mem_append.mp ht with ht | ht
        · exact hc t ht
        · cases List.mem_singleton.mp ht; exact hcs
      · rw [List.length_append, List.length_singleton]
        exact (dr.trans dr4).mono (by omega)
    · rintro acc S3 ⟨ts, hpre, rfl, hc, dr⟩
      have hts : ts.map (·.1) = srtS xs := by
        have h2 : (ts.map (·.1)).map D.str = (srtS xs).map D.str := by rw [List.map_map, hpre]; rfl
        have h3 := strsOf_map (ts.map (·.1))
        rw [h2, strsOf_map] at h3
        exact (Option.some.inj h3).symm
      have hl : ts.length = m := by rw [← hlen, ← px.length_eq, ← hts, List.length_map]
      refine ⟨ts, rfl, ⟨⟨by omega, by omega⟩, by rw [hts]; exact px.nodup_iff.mpr nd, fun t ht => ?_, hc⟩, dr.mono (by omega)⟩
      exact pool8_ok _ (sub _ (px.subset (by rw [← hts]; exact List.mem_map_of_mem ht)))
/-! ### worths, checks, rights -/
abbrev DZ (W k : Nat) (d : D) : Prop := Dt 1000000000 60 W k d
theorem dd_str {x : String} {W k : Nat} (h : ascB (Str.ofString x) = true ∧ (Str.ofString x).length ≤ 70) (hW : 70 ≤ W) : DZ W k (.str (Str.ofString x)) := dt_str.mpr ⟨ascB_iff.mp h.1, by omega⟩
theorem dd_nm {x : Str} {W k : Nat} (h : NmOk x) (hW : 70 ≤ W) : DZ W k (.str x) := dt_str.mpr ⟨ascB_iff.mp h.1, by have := h.2; omega⟩
theorem dd_int {i : Int} {W k : Nat} (h1 : -1000000000 ≤ i) (h2 : i ≤ 1000000000) (hW : 70 ≤ W) : DZ W k (.int i) := dt_int.mpr ⟨by omega, hW⟩
theorem wts_le {w : Nat} : ∀ {ds : List D}, (∀ d ∈ ds, wt d ≤ w) → wts ds ≤ ds.length * (w + 1)
  | [], _ => by simp [wts]
  | d :: ds, h => by
    have h1 := h d (by simp)
    have h2 := wts_le fun x hx => h x (List.mem_cons_of_mem d hx)
    unfold wts
    rw [List.length_cons, Nat.add_mul]
    omega
/-- a tuple of at most n things -/
theorem ddT {W k w n : Nat} {ds : List D} (hn : ds.length ≤ n) (hL : n ≤ 60) (h : ∀ d ∈ ds, DZ w k d) (hW : n * (w + 1) ≤ W) (hw : w ≤ W) : DZ W (k + 1) (.tup ds) := by
  refine dt_tup.mpr ⟨Nat.le_trans hn hL, fun d hd => (h d hd).mono (Nat.le_refl _) (Nat.le_refl _) hw (Nat.le_refl _), ?_⟩
  exact Nat.le_trans (wts_le fun d hd => (h d hd).w) (Nat.le_trans (Nat.mul_le_mul_right _ hn) hW)
theorem w_numname : (Str.ofString "name" == Str.ofString "number") = false := by decide +kernel
/-- of the kind, not None; or None too -/
def KeyW (b : Bool) (d : D) : Prop := (b = true ∧ ∃ i : Int, d = .int i ∧ -1000000000 ≤ i ∧ i ≤ 1000000000) ∨ (b = false ∧ ∃ x : Str, d = .str x ∧ NmOk x)
def FitW (b : Bool) (d : D) : Prop := d = .non ∨ KeyW b d
theorem fit_dd {b : Bool} {d : D} (h : FitW b d) : DZ 70 0 d := by
  rcases h with rfl | ⟨_, i, rfl, h1, h2⟩ | ⟨_, x, rfl, hx⟩
  · exact dt_non
  · exact dd_int h1 h2 (by omega)
  · exact dd_nm hx (by omega)
def nums5 : List Int := [0, 1, 1000000000, -1, 2]
def names5 : List Str := ["a", "b", "none", "zz", "put"]
theorem nums5_ok : ∀ i ∈ nums5, -1000000000 ≤ i ∧ i ≤ 1000000000 := by decide +kernel
theorem names5_ok : ∀ x ∈ names5, NmOk x := by unfold NmOk; decide +kernel
theorem keyI {d : D} (h : d ∈ nums5.map D.int) : KeyW true d := by
  obtain ⟨i, hi, rfl⟩ := List.mem_map.mp h
  exact .inl ⟨rfl, i, rfl, nums5_ok i hi⟩
theorem keyX {d : D} (h : d ∈ names5.map D.str) : KeyW false d := by
  obtain ⟨i, hi, rfl⟩ := List.mem_map.mp h
  exact .inr ⟨rfl, i, rfl, names5_ok i hi⟩
theorem worth_ok {n k : Nat} {S : Sto} (b key : Bool) (hS : Pt n k S) (hk : k ≤ 800000000) : Fp f__law_worth [.d (.ref n), .d (.str (kindS b)), .d (.bl key)] S fun r S' => (∃ d, r = .d d ∧ FitW b d ∧ (key = true → KeyW b d)) ∧ Dr n (k + 1) S S' := by
  unfold f__law_worth
  rw [fp_runF]
  cases b with
  | true =>
    have e : kindS true = "number" := rfl
    rw [e]
    simp! only [e__law_worth_0, e__law_worth_1]
    cases key with
    | true =>
      simp! only
      refine (pick_ok (.inl rfl) (by decide) (by decide) hS (by omega)).mono ?_
      rintro r S1 ⟨⟨d, hd, rfl⟩, dr⟩
      have hd' := keyI (d := d) (List.mem_of_mem_take (show d ∈ (nums5.map D.int).take 4 from hd))
      simp! only
      exact ⟨⟨d, rfl, .inr hd', fun _ => hd'⟩, dr⟩
    | false =>
      simp! only
      refine (pick_ok (.inl rfl) (by simp) (by simp) hS (by omega)).mono ?_
      rintro r S1 ⟨⟨d, hd, rfl⟩, dr⟩
      simp! only
      rcases List.mem_append.mp (show d ∈ nums5.map D.int ++ [.non] from hd) with h | h
      · exact ⟨⟨d, rfl, .inr (keyI h), fun z => (nomatch z)⟩, dr⟩
      · exact ⟨⟨d, rfl, .inl (List.mem_singleton.mp h), fun z => (nomatch z)⟩, dr⟩
  | false =>
    have e : kindS false = "name" := rfl
    rw [e]
    simp! only [e__law_worth_0, e__law_worth_1]
    rw [if_neg (by rw [w_numname]; simp)]
    cases key with
    | true =>
      simp! only
      refine (pick_ok (.inl rfl) (by decide) (by decide) hS (by omega)).mono ?_
      rintro r S1 ⟨⟨d, hd, rfl⟩, dr⟩
      have hd' := keyX (d := d) (List.mem_of_mem_take (show d ∈ (names5.map D.str).take 4 from hd))
      simp! only
      exact ⟨⟨d, rfl, .inr hd', fun _ => hd'⟩, dr⟩
    | false =>
      simp! only
      refine (pick_ok (.inl rfl) (by simp) (by simp) hS (by omega)).mono ?_
      rintro r S1 ⟨⟨d, hd, rfl⟩, dr⟩
      simp! only
      rcases List.mem_append.mp (show d ∈ names5.map D.str ++ [.non] from hd) with h | h
      · exact ⟨⟨d, rfl, .inr (keyX h), fun z => (nomatch z)⟩, dr⟩
      · exact ⟨⟨d, rfl, .inl (List.mem_singleton.mp h), fun z => (nomatch z)⟩, dr⟩
end G

set_option Elab.async false
set_option linter.all false
set_option maxRecDepth 1000000
set_option maxHeartbeats 4000000
/- ev9 -/
namespace G
variable [Wld]
open PySem PySem.Spec PyProof.Rows L2
local macro_rules
  | `(tactic| simp! only) => `(tactic| simp only [ev0, ev1, ev2, ev3, ev4, ev5, ev6, ev7, ev8, ev9, wp_ix_refC, wp_setItE, List.map_cons, List.map_nil, List.replicate, List.cons_append, List.nil_append, List.length_cons, List.length_nil, List.set_cons_succ, List.set_cons_zero, List.getElem?_cons_zero, List.getElem?_cons_succ, Option.map_some, Option.bind_some, List.all_cons, List.all_nil, List.isEmpty_nil, List.isEmpty_cons, eq_self, if_true, if_false, ite_true, ite_false, Option.some.injEq, exists_eq_left', exists_eq_left, Nat.reduceAdd, Nat.reduceLT, Nat.reduceLeDiff, Int.reduceLE, Int.reduceLT, Int.reduceNeg, Int.reducePow, Int.reduceToNat])
  | `(tactic| simp! only [$xs,*]) => `(tactic| simp only [ev0, ev1, ev2, ev3, ev4, ev5, ev6, ev7, ev8, ev9, wp_ix_refC, wp_setItE, List.map_cons, List.map_nil, List.replicate, List.cons_append, List.nil_append, List.length_cons, List.length_nil, List.set_cons_succ, List.set_cons_zero, List.getElem?_cons_zero, List.getElem?_cons_succ, Option.map_some, Option.bind_some, List.all_cons, List.all_nil, List.isEmpty_nil, List.isEmpty_cons, eq_self, if_true, if_false, ite_true, ite_false, Option.some.injEq, exists_eq_left', exists_eq_left, Nat.reduceAdd, Nat.reduceLT, Nat.reduceLeDiff, Int.reduceLE, Int.reduceLT, Int.reduceNeg, Int.reducePow, Int.reduceToNat, $xs,*])
theorem flQ_imp {Q Q' : Rt → Sto → Prop} (h : ∀ r S, Q r S → Q' r S) : ∀ fl e S, flQ Q fl e S → flQ Q' fl e S := fun fl e S q => by
  cases fl <;> first | exact h _ _ q | exact q
theorem col_mem {cs : Cols} {d : D} (h : d ∈ cs.map colD) : ∃ c ∈ cs, d = .tup [.str c.1, .str (kindS c.2)] := by
  obtain ⟨c, hc, rfl⟩ := List.mem_map.mp h
  exact ⟨c, hc, rfl⟩
theorem kind_eq (a b : Bool) : (kindS a == kindS b) = (a == b) := by cases a <;> cases b <;> decide +kernel
theorem kind_num (a : Bool) : (kindS a == Str.ofString "number") = a := by cases a <;> decide +kernel
/-! ### checks -/
inductive Ck
  | is (x : Str) (d : D) | ltn (x : Str) (i : Int) | like (x y : Str) | no (c : Ck) | two (w : Bool) (a b : Ck)
def wS (w : Bool) : Str := if w then "and" else "or"
def Ck.D : Ck → D
  | .is x d => .tup [.str "is", .str x, d]
  | .ltn x i => .tup [.str "below", .str x, .int i]
  | .like x y => .tup [.str "like", .str x, .str y]
  | .no c => .tup [.str "not", c.D]
  | .two w a b => .tup [.str (wS w), a.D, b.D]
def Ck.Ok (cs : Cols) : Nat → Ck → Prop
  | _, .is x d => ∃ b, (x, b) ∈ cs ∧ FitW b d
  | _, .ltn x i => (x, true) ∈ cs ∧ -1000000000 ≤ i ∧ i ≤ 1000000000
  | _, .like x y => ∃ b, (x, b) ∈ cs ∧ (y, b) ∈ cs
  | k + 1, .no c => c.Ok cs k
  | k + 1, .two _ a b => a.Ok cs k ∧ b.Ok cs k
  | 0, _ => False
theorem atom_dd {w : String} {x : Str} {d : D} (hw : ascB (Str.ofString w) = true ∧ (Str.ofString w).length ≤ 70) (hx : NmOk x) (hd : DZ 70 0 d) : DZ 213 1 (.tup [.str (Str.ofString w), .str x, d]) := by
  refine ddT (n := 3) (w := 70) (by simp) (by omega) (fun y hy => ?_) (by omega) (by omega)
  simp only [List.mem_cons, List.not_mem_nil, or_false] at hy
  rcases hy with rfl | rfl | rfl
  · exact dd_str hw (by omega)
  · exact dd_nm hx (by omega)
  · exact hd
theorem Ck.Ok.dd {cs : Cols} {N : Nat} (h : ColsOk cs N) : ∀ {c : Ck}, c.Ok cs 0 → DZ 213 1 c.D
  | .is x d, hc => by
    obtain ⟨b, h1, h2⟩ := hc
    exact atom_dd (w := "is") (by decide +kernel) (h.nm _ h1) (fit_dd h2)
  | .ltn x i, hc => by
    obtain ⟨h1, h2, h3⟩ := hc
    exact atom_dd (w := "below") (by decide +kernel) (h.nm _ h1) (dd_int h2 h3 (by omega))
  | .like x y, hc => by
    obtain ⟨b, h1, h2⟩ := hc
    exact atom_dd (w := "like") (by decide +kernel) (h.nm _ h1) (dd_nm (h.nm _ h2) (by omega))
  | .no c, hc => hc.elim
  | .two w a b, hc => hc.elim
theorem Ck.Ok.dd1 {cs : Cols} {N : Nat} (h : ColsOk cs N) {c : Ck} (hc : c.Ok cs 1) : DZ 1000 2 c.D := by
  have up : ∀ {d : G.D}, DZ 213 1 d → DZ 1000 2 d := fun h => h.mono (Nat.le_refl _) (Nat.le_refl _) (by omega) (by omega)
  have g : ∀ {ds : List G.D}, ds.length ≤ 3 → (∀ d ∈ ds, DZ 213 1 d) → DZ 1000 2 (.tup ds) := fun hl hd => ddT (n := 3) (w := 213) hl (by omega) hd (by omega) (by omega)
  cases c with
  | is x d => exact up (Ck.Ok.dd h (c := .is x d) hc)
  | ltn x d => exact up (Ck.Ok.dd h (c := .ltn x d) hc)
  | like x d => exact up (Ck.Ok.dd h (c := .like x d) hc)
  | no c => exact g (ds := [.str "not", c.D]) (by simp) (by simp only [List.mem_cons, List.not_mem_nil, or_false]; rintro d (rfl | rfl); exact dd_str (by decide +kernel) (by omega); exact Ck.Ok.dd h hc)
  | two w a b =>
    refine g (ds := [.str (wS w), a.D, b.D]) (by simp) ?_
    simp only [List.mem_cons, List.not_mem_nil, or_false]
    rintro d (rfl | rfl | rfl)
    · cases w <;> exact dd_str (by decide +kernel) (by omega)
    · exact Ck.Ok.dd h hc.1
    · exact Ck.Ok.dd h hc.2
theorem check_atom {n k : Nat} {S : Sto} {cs : Cols} {self : Fn} {dp : Int} {w : Nat} (hw : w < 6) {c c2 : Str × Bool} (hc : c ∈ cs) (hc2 : c2 ∈ cs) {x8 x9 : Option Sl} (hS : Pt n k S) (hk : k ≤ 700000000) {j : Nat} {l : Nat} (hl : k + 1 ≤ l) :
    Wp (t__law_check_2 self) [some (.d (.ref n)), some (.d (colsD cs)), some (.d (.int dp)), some (.d (.int (w : Int))), some (.d (.str c.1)), some (.d (.str (kindS c.2))), some (.d (.str c2.1)), some (.d (.str (kindS c2.2))), x8, x9] S
      (flQ fun r S' => (∃ q : Ck, r = .d q.D ∧ q.Ok cs j) ∧ Dr n l S S') := by
  have rest : Wp (t__law_check_3 self) [some (.d (.ref n)), some (.d (colsD cs)), some (.d (.int dp)), some (.d (.int (w : Int))), some (.d (.str c.1)), some (.d (.str (kindS c.2))), some (.d (.str c2.1)), some (.d (.str (kindS c2.2))), x8, x9] S
      (flQ fun r S' => (∃ q : Ck, r = .d q.D ∧ q.Ok cs j) ∧ Dr n l S S') := by
    have wo : Fp f__law_worth [.d (.ref n), .d (.str (kindS c.2)), .d (.bl false)] S fun r S2 => ∃ ds, Option.map (fun x => D.str (Str.ofString "is") :: x) (Option.map (fun x => D.str c.1 :: x) (dsOf [r.r])) = some ds ∧ ds.length ≤ 1000 ∧ (∃ q : Ck, Rt.d (D.tup ds) = Rt.d q.D ∧ q.Ok cs j) ∧ Dr n l S S2 := by
      refine (worth_ok c.2 false hS (by omega)).mono ?_
      rintro r S2 ⟨⟨d, rfl, hd, _⟩, dr⟩
      exact ⟨_, rfl, by simp, ⟨.is c.1 d, rfl, by unfold Ck.Ok; exact ⟨c.2, hc, hd⟩⟩, dr.mono hl⟩
    simp! only [e__law_check_3]
    split
    · split
      · rename_i h1 h2
        have h2 : c.2 = c2.2 := by rw [kind_eq] at h2; exact eq_of_beq h2
        exact ⟨⟨.like c.1 c2.1, rfl, by unfold Ck.Ok; exact ⟨c.2, hc, by rw [h2]; exact hc2⟩⟩, (Dr.refl hS).mono (by omega)⟩
      · exact wo
    · exact wo
  simp! only [e__law_check_2]
  split
  · split
    · rename_i h1 h2
      have h2 : c.2 = true := by rw [kind_num] at h2; exact h2
      refine (pick_ok (.inl rfl) (by simp) (by simp) hS (by omega)).mono ?_
      rintro r S2 ⟨⟨d, hd, rfl⟩, dr⟩
      have hc' : (c.1, true) ∈ cs := by rw [← h2]; exact hc
      obtain ⟨i, hi, h3, h4⟩ : ∃ i : Int, d = .int i ∧ -1000000000 ≤ i ∧ i ≤ 1000000000 := by
        simp only [List.mem_cons, List.not_mem_nil, or_false] at hd
        rcases hd with h | h | h | h <;> exact ⟨_, h, by decide, by decide⟩
      subst hi
      exact ⟨_, rfl, by simp, ⟨.ltn c.1 i, rfl, by unfold Ck.Ok; exact ⟨hc', h3, h4⟩⟩, dr.mono hl⟩
    · exact rest
  · exact rest
theorem check0_ok {n k : Nat} {S : Sto} {cs : Cols} {N : Nat} (h : ColsOk cs N) (hN : N ≤ 1000) (m : Nat) (hS : Pt n k S) (hk : k ≤ 600000000) {j : Nat} : Fp (f__law_check (m + 1)) [.d (.ref n), .d (colsD cs), .d (.int 0)] S fun r S' => (∃ q : Ck, r = .d q.D ∧ q.Ok cs j) ∧ Dr n (k + 4) S S' := by
  have lo := h.lo
  have hi := h.hi
  unfold f__law_check recF
  rw [fp_runF]
  simp! only [e__law_check_0]
  refine (take_ok hS (by omega) (by omega) (by omega)).mono ?_
  rintro r S1 ⟨w, rfl, hw, dr1⟩
  refine (pick_ok (.inr (.inl rfl)) (by simpa using lo) (by rw [List.length_map]; omega) dr1.pt (by omega)).mono ?_
  rintro r S2 ⟨⟨d, hd, rfl⟩, dr2⟩
  obtain ⟨c, hc, rfl⟩ := col_mem hd
  refine (pick_ok (.inr (.inl rfl)) (by simpa using lo) (by rw [List.length_map]; omega) dr2.pt (by omega)).mono ?_
  rintro r S3 ⟨⟨d, hd, rfl⟩, dr3⟩
  obtain ⟨c2, hc2, rfl⟩ := col_mem hd
  simp! only [e__law_check_1]
  rw [if_neg (by simp)]
  refine (check_atom (show w < 6 by omega) hc hc2 dr3.pt (by omega) (j := j) (l := k + 4) (by omega)).mono ?_
  exact flQ_imp fun r S q => ⟨q.1, ((dr1.trans dr2).trans dr3).trans q.2⟩
theorem check1_ok {n k : Nat} {S : Sto} {cs : Cols} {N : Nat} (h : ColsOk cs N) (hN : N ≤ 1000) (m : Nat) (hS : Pt n k S) (hk : k ≤ 500000000) : Fp (f__law_check (m + 2)) [.d (.ref n), .d (colsD cs), .d (.int 1)] S fun r S' => (∃ q : Ck, r = .d q.D ∧ q.Ok cs 1) ∧ Dr n (k + 11) S S' := by
  have lo := h.lo
  have hi := h.hi
  unfold f__law_check recF
  rw [fp_runF]
  simp! only [e__law_check_0]
  refine (take_ok hS (by omega) (by omega) (by omega)).mono ?_
  rintro r S1 ⟨w, rfl, hw, dr1⟩
  refine (pick_ok (.inr (.inl rfl)) (by simpa using lo) (by rw [List.length_map]; omega) dr1.pt (by omega)).mono ?_
  rintro r S2 ⟨⟨d, hd, rfl⟩, dr2⟩
  obtain ⟨c, hc, rfl⟩ := col_mem hd
  refine (pick_ok (.inr (.inl rfl)) (by simpa using lo) (by rw [List.length_map]; omega) dr2.pt (by omega)).mono ?_
  rintro r S3 ⟨⟨d, hd, rfl⟩, dr3⟩
  obtain ⟨c2, hc2, rfl⟩ := col_mem hd
  simp! only [e__law_check_1]
  have dr := (dr1.trans dr2).trans dr3
  have rest : ∀ {x8 x9 : Option Sl}, Wp (t__law_check_2 (recF 7 b__law_check (m + 1))) [some (.d (.ref n)), some (.d (colsD cs)), some (.d (.int 1)), some (.d (.int (w : Int))), some (.d (.str c.1)), some (.d (.str (kindS c.2))), some (.d (.str c2.1)), some (.d (.str (kindS c2.2))), x8, x9] S3
      (flQ fun r S' => (∃ q : Ck, r = .d q.D ∧ q.Ok cs 1) ∧ Dr n (k + 11) S S') := by
    intro x8 x9
    refine (check_atom (show w < 6 by omega) hc hc2 dr3.pt (by omega) (j := 1) (l := k + 11) (by omega)).mono ?_
    exact flQ_imp fun r S q => ⟨q.1, dr.trans q.2⟩
  rw [if_pos (by simp)]
  split
  · rename_i hw3
    have hw3 : (w : Int) < 3 := of_decide_eq_true hw3
    refine (check0_ok h hN m dr3.pt (by omega) (j := 0)).mono ?_
    rintro r S4 ⟨⟨d1, rfl, h1⟩, dr4⟩
    refine (check0_ok h hN m dr4.pt (by omega) (j := 0)).mono ?_
    rintro r S5 ⟨⟨d2, rfl, h2⟩, dr5⟩
    simp! only
    have dr' := ((dr.trans dr4).trans dr5).mono (show _ ≤ k + 11 by omega)
    have hw' : w = 0 ∨ w = 1 ∨ w = 2 := by omega
    rcases hw' with rfl | rfl | rfl
    · exact ⟨_, rfl, ⟨.no d1, rfl, h1⟩, dr'⟩
    · exact ⟨_, rfl, ⟨.two true d1 d2, rfl, h1, h2⟩, dr'⟩
    · exact ⟨_, rfl, ⟨.two false d2 d1, rfl, h2, h1⟩, dr'⟩
  · exact rest
end G

set_option Elab.async false
set_option linter.all false
set_option maxRecDepth 1000000
set_option maxHeartbeats 4000000
/- ev9 -/
namespace G
variable [Wld]
open PySem PySem.Spec PyProof.Rows L2
local macro_rules
  | `(tactic| simp! only) => `(tactic| simp only [ev0, ev1, ev2, ev3, ev4, ev5, ev6, ev7, ev8, ev9, wp_ix_refC, wp_setItE, List.map_cons, List.map_nil, List.replicate, List.cons_append, List.nil_append, List.length_cons, List.length_nil, List.set_cons_succ, List.set_cons_zero, List.getElem?_cons_zero, List.getElem?_cons_succ, Option.map_some, Option.bind_some, List.all_cons, List.all_nil, List.isEmpty_nil, List.isEmpty_cons, eq_self, if_true, if_false, ite_true, ite_false, Option.some.injEq, exists_eq_left', exists_eq_left, Nat.reduceAdd, Nat.reduceLT, Nat.reduceLeDiff, Int.reduceLE, Int.reduceLT, Int.reduceNeg, Int.reducePow, Int.reduceToNat])
  | `(tactic| simp! only [$xs,*]) => `(tactic| simp only [ev0, ev1, ev2, ev3, ev4, ev5, ev6, ev7, ev8, ev9, wp_ix_refC, wp_setItE, List.map_cons, List.map_nil, List.replicate, List.cons_append, List.nil_append, List.length_cons, List.length_nil, List.set_cons_succ, List.set_cons_zero, List.getElem?_cons_zero, List.getElem?_cons_succ, Option.map_some, Option.bind_some, List.all_cons, List.all_nil, List.isEmpty_nil, List.isEmpty_cons, eq_self, if_true, if_false, ite_true, ite_false, Option.some.injEq, exists_eq_left', exists_eq_left, Nat.reduceAdd, Nat.reduceLT, Nat.reduceLeDiff, Int.reduceLE, Int.reduceLT, Int.reduceNeg, Int.reducePow, Int.reduceToNat, $xs,*])
def nmD (c : Str × Bool) : D := .str c.1
/-! ### rights -/
inductive Rg
  | no
  | sees (c : Option Ck) (xs : List Str)
def optD : Option Ck → D
  | none => .non
  | some c => c.D
def Rg.D : Rg → D
  | .no => .non
  | .sees c xs => .tup [optD c, .tup (xs.map G.D.str)]
def NmsOk (cs : Cols) (xs : List Str) : Prop := xs.length ≤ cs.length ∧ ∀ x ∈ xs, ∃ b, (x, b) ∈ cs
def Rg.Ok (cs : Cols) : Rg → Prop
  | .no => True
  | .sees c xs => (∀ k, c = some k → k.Ok cs 1) ∧ NmsOk cs xs
theorem nms_of {cs : Cols} {ss : List D} (hl : ss.length ≤ cs.length) (h : ∀ d ∈ ss, d ∈ cs.map nmD) : ∃ xs : List Str, ss = xs.map D.str ∧ NmsOk cs xs := by
  refine ⟨ss.map fun d => match d with | .str x => x | _ => "", ?_, by rw [List.length_map]; exact hl, ?_⟩
  · rw [List.map_map]
    refine (List.map_id _).symm.trans (List.map_congr_left fun d hd => ?_)
    obtain ⟨c, _, rfl⟩ := List.mem_map.mp (h d hd)
    rfl
  · intro x hx
    obtain ⟨d, hd, rfl⟩ := List.mem_map.mp hx
    obtain ⟨c, hc, rfl⟩ := List.mem_map.mp (h d hd)
    exact ⟨c.2, hc⟩
theorem nms_all (cs : Cols) : NmsOk cs (cs.map (·.1)) := ⟨by simp, fun x hx => by
  obtain ⟨c, hc, rfl⟩ := List.mem_map.mp hx
  exact ⟨c.2, hc⟩⟩
theorem nms_dd {cs : Cols} {xs : List Str} {N : Nat} (h : ColsOk cs N) (hN : N ≤ 20) (hs : NmsOk cs xs) : DZ 1420 1 (.tup (xs.map D.str)) := by
  have hi := h.hi
  have := hs.1
  refine ddT (n := 20) (w := 70) (by rw [List.length_map]; omega) (by omega) (fun d hd => ?_) (by omega) (by omega)
  obtain ⟨x, hx, rfl⟩ := List.mem_map.mp hd
  obtain ⟨b, hb⟩ := hs.2 x hx
  exact dd_nm (h.nm _ hb) (by omega)
theorem Rg.Ok.dd {cs : Cols} {N : Nat} (h : ColsOk cs N) (hN : N ≤ 20) {g : Rg} (hg : g.Ok cs) : DZ 3000 3 g.D := by
  cases g with
  | no => exact dt_non
  | sees c xs =>
    refine ddT (n := 2) (w := 1420) (by simp) (by omega) (fun d hd => ?_) (by omega) (by omega)
    simp only [List.mem_cons, List.not_mem_nil, or_false] at hd
    rcases hd with rfl | rfl
    · cases c with
      | none => exact dt_non
      | some c => exact (Ck.Ok.dd1 h (hg.1 c rfl)).mono (Nat.le_refl _) (Nat.le_refl _) (by omega) (by omega)
    · exact (nms_dd h hN hg.2).mono (Nat.le_refl _) (Nat.le_refl _) (by omega) (by omega)
theorem wp_src_cols {cs : Cols} {e : En} {S : Sto} {q : Src → En → Sto → Prop} : Wp (srcOf (.d (colsD cs))) e S q ↔ q ⟨cs.map colD, []⟩ e S := wp_src_tup
def fstD : D → D
  | .tup (a :: _) => a
  | d => d
theorem fst_all (cs : Cols) : ((cs.map colD).filter fun _ => true).map fstD = cs.map nmD := by
  rw [List.filter_eq_self.mpr (by simp), List.map_map]; rfl
theorem nm_str (cs : Cols) : cs.map nmD = (cs.map (·.1)).map D.str := by rw [List.map_map]; rfl
theorem right_ok {n k : Nat} {S : Sto} {cs : Cols} (h : ColsOk cs 4) (hS : Pt n k S) (hk : k ≤ 400000000) : Fp f__law_right [.d (.ref n), .d (colsD cs)] S fun r S' => (∃ g : Rg, r = .d g.D ∧ g.Ok cs) ∧ Dr n (k + 16) S S' := by
  have lo := h.lo
  have hi := h.hi
  unfold f__law_right
  rw [fp_runF]
  simp! only [e__law_right_0]
  refine (take_ok hS (by omega) (by omega) (by omega)).mono ?_
  rintro r S1 ⟨w, rfl, hw, dr1⟩
  simp! only [wp_src_cols]
  refine wp_compL_fm (fun _ => true) fstD (fun _ => wat_nil _ _) ?_ ?_
  · intro d hd
    obtain ⟨c, hc, rfl⟩ := col_mem hd
    refine ⟨_, rfl, ?_⟩
    simp! only
    exact rfl
  rw [fst_all]
  simp! only [e__law_right_1]
  split
  · exact ⟨⟨.no, rfl, trivial⟩, dr1.mono (by omega)⟩
  simp! only [e__law_right_2]
  refine wp_compL (fun pre post acc S' => acc.length ≤ pre.length ∧ (∀ d ∈ acc, d ∈ pre) ∧ Dr n (k + 1 + pre.length) S S') (fun _ => wat_one rfl) ⟨by simp, by simp, dr1⟩ ?_ ?_
  · rintro pre d post acc S' hp ⟨h1, h2, dr⟩
    have hl := congrArg List.length hp
    simp at hl
    refine ⟨_, gt_name.mpr ⟨by simp, rfl⟩, ?_⟩
    simp! only
    refine (take_ok dr.pt (by omega) (by omega) (by omega)).mono ?_
    rintro r S2 ⟨i, rfl, hi2, dr2⟩
    simp! only
    have dr3 : Dr n (k + 1 + (pre ++ [d]).length) S S2 := (dr.trans dr2).mono (by simp; omega)
    split
    · exact ⟨by simpa using h1, fun x hx => by
        rcases List.mem_append.mp hx with hx | hx
        · exact List.mem_append.mpr (.inl (h2 x hx))
        · exact List.mem_append.mpr (.inr hx), dr3⟩
    · exact ⟨by simp; omega, fun x hx => List.mem_append.mpr (.inl (h2 x hx)), dr3⟩
  rintro ss S2 ⟨h1, h2, dr⟩
  rw [List.length_map] at h1 dr
  obtain ⟨xs, rfl, hs⟩ := nms_of h1 h2
  have last : ∀ {o : Option Ck} {S3 : Sto}, (∀ q, o = some q → q.Ok cs 1) → Dr n (k + 16) S S3 → Wp t__law_right_4 [some (.d (.ref n)), some (.d (colsD cs)), some (.d (.tup (xs.map D.str))), some (.d (optD o)), some (.d (.int (w : Int))), some (.own (.lst (cs.map nmD))), none, none] S3 (flQ fun r S' => (∃ g : Rg, r = .d g.D ∧ g.Ok cs) ∧ Dr n (k + 16) S S') := fun {o _} hx dr => by
    have c1 : (∃ g : Rg, Rt.d (.tup [optD o, .tup (cs.map nmD)]) = .d g.D ∧ g.Ok cs) := ⟨.sees o (cs.map (·.1)), by rw [nm_str]; rfl, hx, nms_all cs⟩
    simp! only [e__law_right_4]
    split
    · exact ⟨c1, dr⟩
    · split
      · exact ⟨c1, dr⟩
      · exact ⟨⟨.sees o xs, rfl, hx, hs⟩, dr⟩
  simp! only [e__law_right_3]
  split
  · exact last (o := none) (fun _ z => nomatch z) (dr.mono (by omega))
  · refine (check1_ok h (by omega) 1 dr.pt (by omega)).mono ?_
    rintro r S3 ⟨⟨q, rfl, hd⟩, dr3⟩
    simp! only
    exact last (o := some q) (fun _ z => by cases z; exact hd) ((dr.trans dr3).mono (by omega))
/-- a right for each table -/
def RtOk (ts : Lay) (gs : List Rg) : Prop := gs.length = ts.length ∧ ∀ (i : Nat) (t : Str × Cols) (g : Rg), ts[i]? = some t → gs[i]? = some g → g.Ok t.2
def rtsD (gs : List Rg) : D := .tup (gs.map Rg.D)
end G

set_option Elab.async false
set_option linter.all false
set_option maxRecDepth 1000000
set_option maxHeartbeats 4000000
namespace G
variable [Wld]
open PySem PySem.Spec PyProof.Rows L2
local macro_rules
  | `(tactic| simp! only) => `(tactic| simp only [ev0, ev1, ev2, ev3, ev4, ev5, ev6, ev7, wp_ix_refC, wp_setItE, List.map_cons, List.map_nil, List.replicate, List.cons_append, List.nil_append, List.length_cons, List.length_nil, List.set_cons_succ, List.set_cons_zero, List.getElem?_cons_zero, List.getElem?_cons_succ, Option.map_some, Option.bind_some, List.all_cons, List.all_nil, List.isEmpty_nil, List.isEmpty_cons, eq_self, if_true, if_false, ite_true, ite_false, Option.some.injEq, exists_eq_left', exists_eq_left, Nat.reduceAdd, Nat.reduceLT, Nat.reduceLeDiff, Int.reduceLE, Int.reduceLT, Int.reduceNeg, Int.reducePow, Int.reduceToNat])
  | `(tactic| simp! only [$xs,*]) => `(tactic| simp only [ev0, ev1, ev2, ev3, ev4, ev5, ev6, ev7, wp_ix_refC, wp_setItE, List.map_cons, List.map_nil, List.replicate, List.cons_append, List.nil_append, List.length_cons, List.length_nil, List.set_cons_succ, List.set_cons_zero, List.getElem?_cons_zero, List.getElem?_cons_succ, Option.map_some, Option.bind_some, List.all_cons, List.all_nil, List.isEmpty_nil, List.isEmpty_cons, eq_self, if_true, if_false, ite_true, ite_false, Option.some.injEq, exists_eq_left', exists_eq_left, Nat.reduceAdd, Nat.reduceLT, Nat.reduceLeDiff, Int.reduceLE, Int.reduceLT, Int.reduceNeg, Int.reducePow, Int.reduceToNat, $xs,*])
/-! ### things -/
def kdD : D → Option Kd
  | .non => some .non
  | .bl _ => some .bl
  | .int _ => some .int
  | .str _ => some .str
  | .tup _ => some .tup
  | .lst _ => some .lst
  | .dic _ _ => some .dct
  | .ref _ => none
  | .fn _ => none
  | .exc _ _ _ => none
theorem kd_D {d : D} {k : Kd} {e : En} {S : Sto} (h : kdD d = some k) : kd (.d d) e S = some k := by
  cases d <;> simp [kdD] at h <;> subst h <;> rfl
/-- a thing that may stand as a worth -/
structure Pl (d : D) : Prop where
  k : ∃ k, kdD d = some k
  s : ∀ x, d = .str x → x.length ≤ 1000000
def letB (x : Str) : Bool := x.cps.toList.all fun c => decide (97 ≤ c ∧ c ≤ 122)
def namS (x : Str) : Bool := decide (1 ≤ x.length) && (decide (x.length ≤ 8) && letB x)
def namB : D → Bool
  | .str x => namS x
  | _ => false
theorem blsOf_map {α : Type} (f : α → Bool) (l : List α) : blsOf (l.map fun x => D.bl (f x)) = some (l.map f) := by
  induction l with
  | nil => rfl
  | cons x l ih => simp [blsOf, ih]
theorem letters_mem : ∀ c : Nat, (c ∈ (Str.ofString "abcdefghijklmnopqrstuvwxyz").cps.toList) ↔ (97 ≤ c ∧ c ≤ 122) := by
  have h : (Str.ofString "abcdefghijklmnopqrstuvwxyz").cps.toList = [97, 98, 99, 100, 101, 102, 103, 104, 105, 106, 107, 108, 109, 110, 111, 112, 113, 114, 115, 116, 117, 118, 119, 120, 121, 122] := by decide +kernel
  intro c
  rw [h]
  simp
  omega
theorem wp_in_sign {neg : Bool} {c : Nat} {z : Str} {e : En} {S : Sto} {Q : R → En → Sto → Prop} : Wp (gIn neg (.d (.str ⟨#[c]⟩)) (.d (.str z))) e S Q ↔ Q (.d (.bl (decide (c ∈ z.cps.toList) != neg))) e S := wp_some rfl
def oneB (d : D) : D := match d with
  | .str x => .bl (x.cps.toList.all fun c => decide (97 ≤ c ∧ c ≤ 122))
  | d => d
theorem oneB_map (x : Str) : (x.cps.toList.map fun c => D.str ⟨#[c]⟩).map oneB = x.cps.toList.map fun c => D.bl (decide (97 ≤ c ∧ c ≤ 122)) := by
  rw [List.map_map]
  refine List.map_congr_left fun c _ => ?_
  simp [oneB]
theorem name_ok {S : Sto} {d : D} (h : Pl d) : Fp f_is_name [.d d] S fun r S' => r = .d (.bl (namB d)) ∧ S' = S := by
  obtain ⟨⟨k, hk⟩, hs⟩ := h
  unfold f_is_name
  rw [fp_runF]
  simp! only [b_is_name, kd_D hk]
  cases d with
  | str x =>
    cases hk
    have hl := hs x rfl
    simp! only [isK, mChain]
    refine ⟨hl, ?_⟩
    simp! only [wp_ite, dLe_int]
    have hq : ∀ b : Bool, b = namS x → Rt.d (D.bl b) = Rt.d (D.bl (namB (.str x))) := fun b hb => by rw [hb]; rfl
    split
    · rename_i g1
      have g1 := of_decide_eq_true g1
      split
      · rename_i g2
        have g2 := of_decide_eq_true g2
        refine ⟨hl, ?_⟩
        refine wp_compL_fm (fun _ => true) oneB (fun _ => wat_nil _ _) ?_ ?_
        · intro d hd
          obtain ⟨c, hc, rfl⟩ := List.mem_map.mp hd
          refine ⟨_, gt_name.mpr ⟨by simp, rfl⟩, ?_⟩
          have hm : decide (c ∈ (Str.ofString "abcdefghijklmnopqrstuvwxyz").cps.toList) = decide (97 ≤ c ∧ c ≤ 122) := decide_eq_decide.mpr (letters_mem c)
          simp! only [wp_in_sign, hm]
          simp [oneB]
        · rw [List.filter_eq_self.mpr (fun _ _ => rfl), oneB_map]
          refine ⟨_, blsOf_map (fun c => decide (97 ≤ c ∧ c ≤ 122)) x.cps.toList, hq _ ?_, rfl⟩
          have h1 : 1 ≤ x.length := by omega
          have h2 : x.length ≤ 8 := by omega
          simp [namS, letB, h1, h2, List.all_map, Function.comp_def]
      · rename_i g2
        have h2 : ¬ x.length ≤ 8 := by simp at g2; omega
        exact hq _ (by simp [namS, h2])
    · rename_i g1
      have h1 : ¬ 1 ≤ x.length := by simp at g1; omega
      exact hq _ (by simp [namS, h1])
  | _ => cases hk <;> simp [isK, namB]
end G

set_option Elab.async false
set_option linter.all false
set_option maxRecDepth 100000
set_option maxHeartbeats 4000000
namespace G
variable [Wld]
open PySem PySem.Spec PyProof.Rows L2
/-- data fine enough for all looks -/
abbrev Fd (d : D) : Prop := Dt (10 ^ 20) 1000 600000 55 d
theorem Fd.kd {d : D} (h : datB d = true) : ∃ k, kdD d = some k := by cases d <;> first | exact ⟨_, rfl⟩ | cases h
theorem Dt.pl {N L W k : Nat} {d : D} (h : Dt N L W k d) (hW : W ≤ 1000000) : Pl d := ⟨Fd.kd h.dat, fun x e => by
  subst e
  exact Nat.le_trans (dt_str.mp h).2 hW⟩
theorem Dt.item {N L W k : Nat} {ds : List D} (h : Dt N L W k (.tup ds)) {d : D} (hd : d ∈ ds) : Dt N L W k d := by
  cases k with
  | zero => exact absurd h.d (by simp [dep])
  | succ k => exact ((dt_tup.mp h).2.1 d hd).mono (Nat.le_refl _) (Nat.le_refl _) (Nat.le_refl _) (Nat.le_succ _)
theorem Dt.len {N L W k : Nat} {ds : List D} (h : Dt N L W k (.tup ds)) : ds.length ≤ L := by
  cases k with
  | zero => exact absurd h.d (by simp [dep])
  | succ k => exact (dt_tup.mp h).1
def fstS : D → Str
  | .tup (.str x :: _) => x
  | _ => ""
def strB : D → Bool
  | .str _ => true
  | _ => false
theorem isK_str {d : D} {k : Kd} (h : kdD d = some k) : isK k .str = strB d := by cases d <;> cases h <;> rfl
def tupB : D → Bool
  | .tup _ => true
  | _ => false
theorem isK_tup {d : D} {k : Kd} (h : kdD d = some k) : isK k .tuple = tupB d := by cases d <;> cases h <;> rfl
end G

set_option Elab.async false
set_option linter.all false
set_option maxRecDepth 100000
set_option maxHeartbeats 4000000
namespace G
variable [Wld]
open PySem PySem.Spec PyProof.Rows L2
local macro_rules
  | `(tactic| simp! only) => `(tactic| simp only [ev0, ev1, ev2, ev3, ev4, ev5, ev6, ev7, wp_ix_refC, wp_setItE, List.map_cons, List.map_nil, List.replicate, List.cons_append, List.nil_append, List.length_cons, List.length_nil, List.set_cons_succ, List.set_cons_zero, List.getElem?_cons_zero, List.getElem?_cons_succ, Option.map_some, Option.bind_some, List.all_cons, List.all_nil, List.isEmpty_nil, List.isEmpty_cons, eq_self, if_true, if_false, ite_true, ite_false, Option.some.injEq, exists_eq_left', exists_eq_left, Nat.reduceAdd, Nat.reduceLT, Nat.reduceLeDiff, Int.reduceLE, Int.reduceLT, Int.reduceNeg, Int.reducePow, Int.reduceToNat])
  | `(tactic| simp! only [$xs,*]) => `(tactic| simp only [ev0, ev1, ev2, ev3, ev4, ev5, ev6, ev7, wp_ix_refC, wp_setItE, List.map_cons, List.map_nil, List.replicate, List.cons_append, List.nil_append, List.length_cons, List.length_nil, List.set_cons_succ, List.set_cons_zero, List.getElem?_cons_zero, List.getElem?_cons_succ, Option.map_some, Option.bind_some, List.all_cons, List.all_nil, List.isEmpty_nil, List.isEmpty_cons, eq_self, if_true, if_false, ite_true, ite_false, Option.some.injEq, exists_eq_left', exists_eq_left, Nat.reduceAdd, Nat.reduceLT, Nat.reduceLeDiff, Int.reduceLE, Int.reduceLT, Int.reduceNeg, Int.reducePow, Int.reduceToNat, $xs,*])
def isI : D → Bool
  | .int _ => true
  | _ => false
def numB : D → Bool
  | .int i => decide (-1000000000 ≤ i) && decide (i ≤ 1000000000)
  | _ => false
theorem whole_ok {S : Sto} {d : D} (h : ∃ k, kdD d = some k) : Fp f_is_whole [.d d] S fun r S' => r = .d (.bl (isI d)) ∧ S' = S := by
  obtain ⟨k, h⟩ := h
  unfold f_is_whole
  rw [fp_runF]
  simp! only [b_is_whole, kd_D h]
  cases d <;> simp [kdD] at h <;> subst h <;> simp [isK, isI]
theorem number_ok {S : Sto} {d : D} (h : ∃ k, kdD d = some k) : Fp f_is_number [.d d] S fun r S' => r = .d (.bl (numB d)) ∧ S' = S := by
  unfold f_is_number
  rw [fp_runF]
  simp! only [b_is_number]
  refine (whole_ok h).mono ?_
  rintro r S1 ⟨rfl, rfl⟩
  simp! only
  cases d with
  | int i =>
    simp! only [isI, mChain, wp_ite, dLe_int]
    by_cases h1 : -1000000000 ≤ i <;> simp [h1, numB]
  | _ => simp [isI, numB]
/-! ### fits -/
def fitB (k : Str) (d : D) : Bool := match d with
  | .non => true
  | d => if k == "number" then numB d else namB d
theorem fits_ok {S : Sto} {k : Str} {d : D} (h : Pl d) : Fp f_fits [.d (.str k), .d d] S fun r S' => r = .d (.bl (fitB k d)) ∧ S' = S := by
  unfold f_fits
  rw [fp_runF]
  simp! only [b_fits]
  by_cases hn : isNon d = true
  · rw [if_pos hn]
    cases d <;> simp [isNon] at hn
    rfl
  · rw [if_neg hn]
    have hf : fitB k d = if k == "number" then numB d else namB d := by
      cases d <;> first | rfl | (simp [isNon] at hn)
    rw [hf]
    split
    · rename_i hk
      refine (number_ok h.k).mono ?_
      rintro r S1 ⟨rfl, rfl⟩
      simp! only
    · rename_i hk
      refine (name_ok h).mono ?_
      rintro r S1 ⟨rfl, rfl⟩
      simp! only
/-! ### kinds of columns -/
def colT (c : Str × Str) : D := .tup [.str c.1, .str c.2]
abbrev colsT (cs : List (Str × Str)) : D := .tup (cs.map colT)
def kindD (cs : List (Str × Str)) : D → D
  | .str x => match cs.find? fun c => c.1 == x with
    | some c => .str c.2
    | none => .non
  | _ => .non
def lkS (cs : List (Str × Str)) (d : D) : Str := match kindD cs d with
  | .str k => k
  | _ => ""
theorem find_head (cs : List (Str × Str)) (p : Str × Str → Bool) : (cs.filter p).head? = cs.find? p := List.head?_filter ..
theorem kind_cases (cs : List (Str × Str)) (d : D) : kindD cs d = .non ∨ ∃ k, kindD cs d = .str k ∧ ∃ c ∈ cs, c.2 = k := by
  cases d with
  | str x =>
    cases h : cs.find? fun c => c.1 == x with
    | none => left; simp only [kindD, h]
    | some c => right; exact ⟨c.2, by simp only [kindD, h], c, List.mem_of_find?_eq_some h, rfl⟩
  | _ => left; rfl
def sndD (d : D) : D := match d with
  | .tup [_, y] => y
  | d => d
def oneIs (x : Str) (d : D) : Bool := match d with
  | .tup [.str y, _] => y == x
  | _ => false
theorem filt_kinds (cs : List (Str × Str)) (x : Str) : ((cs.map colT).filter (oneIs x)).map sndD = (cs.filter fun c => c.1 == x).map fun c => .str c.2 := by
  rw [List.filter_map, List.map_map]; rfl
theorem kind_ok {S : Sto} {cs : List (Str × Str)} {d : D} (hl : cs.length ≤ 1000) (h : Pl d) : Fp f_kind_of [.d (colsT cs), .d d] S fun r S' => r = .d (kindD cs d) ∧ S' = S := by
  obtain ⟨k, hk⟩ := h.k
  unfold f_kind_of
  rw [fp_runF]
  simp! only [b_kind_of, kd_D hk, isK_str hk]
  cases d with
  | str x =>
    simp! only [strB]
    refine wp_compL_fm (oneIs x) sndD (fun _ => wat_nil _ _) ?_ ?_
    · intro d hd
      obtain ⟨c, hc, rfl⟩ := List.mem_map.mp hd
      refine ⟨_, gt_tup.mpr ⟨rfl, gt_cons.mpr ⟨_, gt_name.mpr ⟨by simp, rfl⟩, gt_cons.mpr ⟨_, gt_name.mpr ⟨by simp, rfl⟩, gt_nil.mpr rfl⟩⟩⟩, ?_⟩
      simp! only [colT, oneIs, sndD]
      split <;> simp_all
    · rw [filt_kinds]
      have hf := List.length_filter_le (fun c : Str × Str => c.1 == x) cs
      simp! only
      refine ⟨by simp; omega, ?_⟩
      have e := find_head cs fun c => c.1 == x
      cases hf : cs.filter fun c => c.1 == x with
      | nil =>
        rw [hf] at e
        simp [kindD, ← e]
      | cons c r =>
        rw [hf] at e
        simp [kindD, ← e]
  | _ => simp [strB, kindD]
def onesD (d y : D) : Bool := match d with
  | .str x => oneIs x y
  | _ => false
/-! ### the forms -/
def isB (cs : List (Str × Str)) (p q : D) : Bool := match kindD cs p with
  | .str k => fitB k q
  | _ => false
def belowB (cs : List (Str × Str)) (p q : D) : Bool := (match kindD cs p with
  | .str k => k == "number"
  | _ => false) && numB q
def likeB (cs : List (Str × Str)) (p q : D) : Bool := match kindD cs p, kindD cs q with
  | .str k, .str k' => k == k'
  | _, _ => false
theorem wp_eq_ns {neg : Bool} {x : Str} {e : En} {S : Sto} {Q : R → En → Sto → Prop} : Wp (gEq neg (.d .non) (.d (.str x))) e S Q ↔ Q (.d (.bl (false != neg))) e S := by
  refine wp_some ?_
  have h : deq 60 .non (.str x) = some false := by unfold deq; rfl
  unfold gEq
  simp only [dat, datB, h]
  cases neg <;> rfl
theorem wp_eq_sn {neg : Bool} {x : Str} {e : En} {S : Sto} {Q : R → En → Sto → Prop} : Wp (gEq neg (.d (.str x)) (.d .non)) e S Q ↔ Q (.d (.bl (false != neg))) e S := by
  refine wp_some ?_
  have h : deq 60 (.str x) .non = some false := by unfold deq; rfl
  unfold gEq
  simp only [dat, datB, h]
  cases neg <;> rfl
theorem is_is_ok {S : Sto} {cs : List (Str × Str)} {p q : D} (hl : cs.length ≤ 1000) (hp : Pl p) (hq : Pl q) : Fp f_is_is [.d (colsT cs), .brw (.lst [p, q])] S fun r S' => r = .d (.bl (isB cs p q)) ∧ S' = S := by
  unfold f_is_is
  rw [fp_runF]
  simp! only [b_is_is]
  refine (kind_ok hl hp).mono ?_
  rintro r S1 ⟨rfl, rfl⟩
  unfold isB
  rcases kind_cases cs p with h | ⟨k, h, _⟩
  · rw [h]
    simp! only
    simp [isNon]
  · rw [h]
    simp! only
    simp [isNon]
    refine (fits_ok hq).mono ?_
    rintro r S1 ⟨rfl, rfl⟩
    simp! only
theorem is_below_ok {S : Sto} {cs : List (Str × Str)} {p q : D} (hl : cs.length ≤ 1000) (hp : Pl p) (hq : Pl q) : Fp f_is_below [.d (colsT cs), .brw (.lst [p, q])] S fun r S' => r = .d (.bl (belowB cs p q)) ∧ S' = S := by
  unfold f_is_below
  rw [fp_runF]
  simp! only [b_is_below]
  refine (kind_ok hl hp).mono ?_
  rintro r S1 ⟨rfl, rfl⟩
  unfold belowB
  rcases kind_cases cs p with h | ⟨k, h, _⟩
  · rw [h]
    simp! only [wp_eq_ns]
    simp
  · rw [h]
    simp! only
    cases hk : k == Str.ofString "number" with
    | false => simp
    | true =>
      simp! only
      refine (number_ok hq.k).mono ?_
      rintro r S1 ⟨rfl, rfl⟩
      simp! only
      simp
theorem is_like_ok {S : Sto} {cs : List (Str × Str)} {p q : D} (hl : cs.length ≤ 1000) (hp : Pl p) (hq : Pl q) : Fp f_is_like [.d (colsT cs), .brw (.lst [p, q])] S fun r S' => r = .d (.bl (likeB cs p q)) ∧ S' = S := by
  unfold f_is_like
  rw [fp_runF]
  simp! only [b_is_like]
  refine (kind_ok hl hp).mono ?_
  rintro r S1 ⟨rfl, rfl⟩
  unfold likeB
  rcases kind_cases cs p with h | ⟨k, h, _⟩
  · rw [h]
    simp! only
    simp [isNon]
  · rw [h]
    simp! only
    simp [isNon]
    refine (kind_ok hl hq).mono ?_
    rintro r S1 ⟨rfl, rfl⟩
    rcases kind_cases cs q with h | ⟨k', h, _⟩
    · rw [h]
      simp! only [wp_eq_sn]
    · rw [h]
      simp! only
end G

set_option Elab.async false
set_option linter.all false
set_option maxRecDepth 100000
set_option maxHeartbeats 4000000
namespace G
variable [Wld]
open PySem PySem.Spec PyProof.Rows L2
local macro_rules
  | `(tactic| simp! only) => `(tactic| simp only [ev0, ev1, ev2, ev3, ev4, ev5, ev6, ev7, wp_ix_refC, wp_setItE, List.map_cons, List.map_nil, List.replicate, List.cons_append, List.nil_append, List.length_cons, List.length_nil, List.set_cons_succ, List.set_cons_zero, List.getElem?_cons_zero, List.getElem?_cons_succ, Option.map_some, Option.bind_some, List.all_cons, List.all_nil, List.isEmpty_nil, List.isEmpty_cons, eq_self, if_true, if_false, ite_true, ite_false, Option.some.injEq, exists_eq_left', exists_eq_left, Nat.reduceAdd, Nat.reduceLT, Nat.reduceLeDiff, Int.reduceLE, Int.reduceLT, Int.reduceNeg, Int.reducePow, Int.reduceToNat])
  | `(tactic| simp! only [$xs,*]) => `(tactic| simp only [ev0, ev1, ev2, ev3, ev4, ev5, ev6, ev7, wp_ix_refC, wp_setItE, List.map_cons, List.map_nil, List.replicate, List.cons_append, List.nil_append, List.length_cons, List.length_nil, List.set_cons_succ, List.set_cons_zero, List.getElem?_cons_zero, List.getElem?_cons_succ, Option.map_some, Option.bind_some, List.all_cons, List.all_nil, List.isEmpty_nil, List.isEmpty_cons, eq_self, if_true, if_false, ite_true, ite_false, Option.some.injEq, exists_eq_left', exists_eq_left, Nat.reduceAdd, Nat.reduceLT, Nat.reduceLeDiff, Int.reduceLE, Int.reduceLT, Int.reduceNeg, Int.reducePow, Int.reduceToNat, $xs,*])
theorem q_not_not : ((Str.ofString "not") == (Str.ofString "not")) = true := by decide
theorem q_not_and : ((Str.ofString "not") == (Str.ofString "and")) = false := by decide
theorem q_not_or : ((Str.ofString "not") == (Str.ofString "or")) = false := by decide
theorem q_not_is : ((Str.ofString "not") == (Str.ofString "is")) = false := by decide
theorem q_not_below : ((Str.ofString "not") == (Str.ofString "below")) = false := by decide
theorem q_not_like : ((Str.ofString "not") == (Str.ofString "like")) = false := by decide
theorem q_and_not : ((Str.ofString "and") == (Str.ofString "not")) = false := by decide
theorem q_and_and : ((Str.ofString "and") == (Str.ofString "and")) = true := by decide
theorem q_and_or : ((Str.ofString "and") == (Str.ofString "or")) = false := by decide
theorem q_and_is : ((Str.ofString "and") == (Str.ofString "is")) = false := by decide
theorem q_and_below : ((Str.ofString "and") == (Str.ofString "below")) = false := by decide
theorem q_and_like : ((Str.ofString "and") == (Str.ofString "like")) = false := by decide
theorem q_or_not : ((Str.ofString "or") == (Str.ofString "not")) = false := by decide
theorem q_or_and : ((Str.ofString "or") == (Str.ofString "and")) = false := by decide
theorem q_or_or : ((Str.ofString "or") == (Str.ofString "or")) = true := by decide
theorem q_or_is : ((Str.ofString "or") == (Str.ofString "is")) = false := by decide
theorem q_or_below : ((Str.ofString "or") == (Str.ofString "below")) = false := by decide
theorem q_or_like : ((Str.ofString "or") == (Str.ofString "like")) = false := by decide
theorem q_is_not : ((Str.ofString "is") == (Str.ofString "not")) = false := by decide
theorem q_is_and : ((Str.ofString "is") == (Str.ofString "and")) = false := by decide
theorem q_is_or : ((Str.ofString "is") == (Str.ofString "or")) = false := by decide
theorem q_is_is : ((Str.ofString "is") == (Str.ofString "is")) = true := by decide
theorem q_is_below : ((Str.ofString "is") == (Str.ofString "below")) = false := by decide
theorem q_is_like : ((Str.ofString "is") == (Str.ofString "like")) = false := by decide
theorem q_below_not : ((Str.ofString "below") == (Str.ofString "not")) = false := by decide
theorem q_below_and : ((Str.ofString "below") == (Str.ofString "and")) = false := by decide
theorem q_below_or : ((Str.ofString "below") == (Str.ofString "or")) = false := by decide
theorem q_below_is : ((Str.ofString "below") == (Str.ofString "is")) = false := by decide
theorem q_below_below : ((Str.ofString "below") == (Str.ofString "below")) = true := by decide
theorem q_below_like : ((Str.ofString "below") == (Str.ofString "like")) = false := by decide
theorem q_like_not : ((Str.ofString "like") == (Str.ofString "not")) = false := by decide
theorem q_like_and : ((Str.ofString "like") == (Str.ofString "and")) = false := by decide
theorem q_like_or : ((Str.ofString "like") == (Str.ofString "or")) = false := by decide
theorem q_like_is : ((Str.ofString "like") == (Str.ofString "is")) = false := by decide
theorem q_like_below : ((Str.ofString "like") == (Str.ofString "below")) = false := by decide
theorem q_like_like : ((Str.ofString "like") == (Str.ofString "like")) = true := by decide
def formB (cs : List (Str × Str)) (rc : D → Bool) (w : Str) (ps : List D) : Bool :=
  if w == "not" then (match ps with
    | [p] => rc p
    | _ => false)
  else match ps with
    | [p, q] => if w == "and" || w == "or" then rc p && rc q else if w == "is" then isB cs p q else if w == "below" then belowB cs p q else if w == "like" then likeB cs p q else false
    | _ => false
def checkB (cs : List (Str × Str)) : Nat → D → Bool
  | n + 1, .tup (.str w :: ps) => formB cs (checkB cs n) w ps
  | _, _ => false
theorem are_ok {S : Sto} {cs : List (Str × Str)} {self : Fn} {rc : D → Bool} {ps : List D} (h : ∀ p ∈ ps, ∀ S, Fp self [.d (colsT cs), .d p] S fun r S' => r = .d (.bl (rc p)) ∧ S' = S) :
    Fp (fo_are_checks self) [.d (colsT cs), .brw (.lst ps)] S fun r S' => r = .d (.bl (ps.all rc)) ∧ S' = S := by
  unfold fo_are_checks
  rw [fp_runF]
  simp! only [b_are_checks]
  refine wp_compL_fm (fun _ => true) (fun d => .bl (rc d)) ?_ ?_ ?_
  · exact fun _ => wat_nil _ _
  · intro d hd
    refine ⟨_, gt_name.mpr ⟨by simp, rfl⟩, ?_⟩
    simp! only
    refine (h d hd S).mono ?_
    rintro r S2 ⟨rfl, rfl⟩
    simp! only
  · rw [List.filter_eq_self.mpr (fun _ _ => rfl)]
    refine ⟨_, blsOf_map rc ps, ?_⟩
    rw [List.all_map]
    simp
section
variable {A : FA} (hd : Dis A) {f1 f2 f3 f4 : Fn}
include hd
theorem lk_1 : List.lookup A.is_is [(A.is_is, f1), (A.is_below, f2), (A.is_like, f3), (A.are_checks, f4)] = some f1 := by simp [List.lookup]
theorem lk_2 : List.lookup A.is_below [(A.is_is, f1), (A.is_below, f2), (A.is_like, f3), (A.are_checks, f4)] = some f2 := by
  have := beq_eq_false_iff_ne.mpr hd.is_below_is_is
  simp [List.lookup, this]
theorem lk_3 : List.lookup A.is_like [(A.is_is, f1), (A.is_below, f2), (A.is_like, f3), (A.are_checks, f4)] = some f3 := by
  have := beq_eq_false_iff_ne.mpr hd.is_like_is_is
  have := beq_eq_false_iff_ne.mpr hd.is_like_is_below
  simp [List.lookup, *]
theorem lk_4 : List.lookup A.are_checks [(A.is_is, f1), (A.is_below, f2), (A.is_like, f3), (A.are_checks, f4)] = some f4 := by
  have := beq_eq_false_iff_ne.mpr hd.are_checks_is_is
  have := beq_eq_false_iff_ne.mpr hd.are_checks_is_below
  have := beq_eq_false_iff_ne.mpr hd.are_checks_is_like
  simp [List.lookup, *]
end
theorem tb_is (A : FA) : (tb_FORMS A).lookup (Str.ofString "is") = some (D.tup [D.int 2, D.fn A.is_is]) := rfl
theorem tb_below (A : FA) : (tb_FORMS A).lookup (Str.ofString "below") = some (D.tup [D.int 2, D.fn A.is_below]) := rfl
theorem tb_like (A : FA) : (tb_FORMS A).lookup (Str.ofString "like") = some (D.tup [D.int 2, D.fn A.is_like]) := rfl
theorem tb_not (A : FA) : (tb_FORMS A).lookup (Str.ofString "not") = some (D.tup [D.int 1, D.fn A.are_checks]) := rfl
theorem tb_and (A : FA) : (tb_FORMS A).lookup (Str.ofString "and") = some (D.tup [D.int 2, D.fn A.are_checks]) := rfl
theorem tb_or (A : FA) : (tb_FORMS A).lookup (Str.ofString "or") = some (D.tup [D.int 2, D.fn A.are_checks]) := rfl
theorem words (w : Str) : w = "is" ∨ w = "below" ∨ w = "like" ∨ w = "not" ∨ w = "and" ∨ w = "or" ∨ ((w == Str.ofString "is") = false ∧ (w == Str.ofString "below") = false ∧ (w == Str.ofString "like") = false ∧ (w == Str.ofString "not") = false ∧ (w == Str.ofString "and") = false ∧ (w == Str.ofString "or") = false) := by
  simp only [beq_eq_false_iff_ne]
  by_cases h1 : w = "is"; · exact .inl h1
  by_cases h2 : w = "below"; · exact .inr (.inl h2)
  by_cases h3 : w = "like"; · exact .inr (.inr (.inl h3))
  by_cases h4 : w = "not"; · exact .inr (.inr (.inr (.inl h4)))
  by_cases h5 : w = "and"; · exact .inr (.inr (.inr (.inr (.inl h5))))
  by_cases h6 : w = "or"; · exact .inr (.inr (.inr (.inr (.inr (.inl h6)))))
  exact .inr (.inr (.inr (.inr (.inr (.inr ⟨h1, h2, h3, h4, h5, h6⟩)))))
theorem dep_item {ds : List D} {d : D} {n : Nat} (h : dep (.tup ds) < n + 1) (hd : d ∈ ds) : dep d < n := by
  have := (deps_le (k := deps ds)).mp (Nat.le_refl _) d hd
  simp only [dep] at h
  omega
theorem check_is {A : FA} (hA : Dis A) {cs : List (Str × Str)} (hl : cs.length ≤ 1000) : ∀ (n : Nat) (d : D) (S : Sto), dep d < n → Fd d → Fp (f_is_check A n) [.d (colsT cs), .d d] S fun r S' => r = .d (.bl (checkB cs n d)) ∧ S' = S
  | n + 1, d, S, hn, hd => by
    obtain ⟨k, hk⟩ := Fd.kd hd.dat
    unfold f_is_check
    rw [recF, fp_runF]
    simp! only [b_is_check, kd_D hk, isK_tup hk]
    cases d with
    | tup ds =>
      cases ds with
      | nil =>
        simp! only [tupB]
        simp [checkB]
      | cons a ps =>
        obtain ⟨ka, hka⟩ := Fd.kd (hd.item (d := a) (by simp)).dat
        simp! only [tupB, kd_D hka, isK_str hka]
        cases a with
        | str w =>
          simp! only [strB]
          rw [if_neg (by simp; omega)]
          refine ⟨_, _, rfl, ?_⟩
          simp! only [wp_inT, wp_ixT]
          have e1 : gtTup 2 (gtCons (gtName 3) (gtCons (gtName 4) gtNil)) = gtTup 2 (gtCons (gtName 3) (gtCons (gtName 4) gtNil)) := rfl
          rcases words w with rfl | rfl | rfl | rfl | rfl | rfl | ⟨h1, h2, h3, h4, h5, h6⟩
          · rw [tb_is]
            rw [if_neg (by simp)]
            refine ⟨_, rfl, _, gt_tup.mpr ⟨rfl, gt_cons.mpr ⟨_, gt_name.mpr ⟨by simp, rfl⟩, gt_cons.mpr ⟨_, gt_name.mpr ⟨by simp, rfl⟩, gt_nil.mpr rfl⟩⟩⟩, ?_⟩
            simp! only
            rcases ps with _ | ⟨p, _ | ⟨q, _ | ⟨r, ps⟩⟩⟩
            · rw [if_neg (by simp <;> omega)]
              simp [checkB, formB, q_is_not, q_is_and, q_is_or, q_is_is, q_is_below, q_is_like]
            · rw [if_neg (by simp <;> omega)]
              simp [checkB, formB, q_is_not, q_is_and, q_is_or, q_is_is, q_is_below, q_is_like]
            ·
              have hp : Fd p := hd.item (by simp)
              have hq : Fd q := hd.item (by simp)
              rw [if_pos (by simp)]
              refine ⟨_, rfl, _, lk_1 hA, ?_⟩
              refine (is_is_ok hl (hp.pl (by omega)) (hq.pl (by omega))).mono ?_
              rintro r S1 ⟨rfl, rfl⟩
              simp! only
              simp [checkB, formB, q_is_not, q_is_and, q_is_or, q_is_is, q_is_below, q_is_like]
            · rw [if_neg (by simp <;> omega)]
              simp [checkB, formB, q_is_not, q_is_and, q_is_or, q_is_is, q_is_below, q_is_like]
          · rw [tb_below]
            rw [if_neg (by simp)]
            refine ⟨_, rfl, _, gt_tup.mpr ⟨rfl, gt_cons.mpr ⟨_, gt_name.mpr ⟨by simp, rfl⟩, gt_cons.mpr ⟨_, gt_name.mpr ⟨by simp, rfl⟩, gt_nil.mpr rfl⟩⟩⟩, ?_⟩
            simp! only
            rcases ps with _ | ⟨p, _ | ⟨q, _ | ⟨r, ps⟩⟩⟩
            · rw [if_neg (by simp <;> omega)]
              simp [checkB, formB, q_below_not, q_below_and, q_below_or, q_below_is, q_below_below, q_below_like]
            · rw [if_neg (by simp <;> omega)]
              simp [checkB, formB, q_below_not, q_below_and, q_below_or, q_below_is, q_below_below, q_below_like]
            ·
              have hp : Fd p := hd.item (by simp)
              have hq : Fd q := hd.item (by simp)
              rw [if_pos (by simp)]
              refine ⟨_, rfl, _, lk_2 hA, ?_⟩
              refine (is_below_ok hl (hp.pl (by omega)) (hq.pl (by omega))).mono ?_
              rintro r S1 ⟨rfl, rfl⟩
              simp! only
              simp [checkB, formB, q_below_not, q_below_and, q_below_or, q_below_is, q_below_below, q_below_like]
            · rw [if_neg (by simp <;> omega)]
              simp [checkB, formB, q_below_not, q_below_and, q_below_or, q_below_is, q_below_below, q_below_like]
          · rw [tb_like]
            rw [if_neg (by simp)]
            refine ⟨_, rfl, _, gt_tup.mpr ⟨rfl, gt_cons.mpr ⟨_, gt_name.mpr ⟨by simp, rfl⟩, gt_cons.mpr ⟨_, gt_name.mpr ⟨by simp, rfl⟩, gt_nil.mpr rfl⟩⟩⟩, ?_⟩
            simp! only
            rcases ps with _ | ⟨p, _ | ⟨q, _ | ⟨r, ps⟩⟩⟩
            · rw [if_neg (by simp <;> omega)]
              simp [checkB, formB, q_like_not, q_like_and, q_like_or, q_like_is, q_like_below, q_like_like]
            · rw [if_neg (by simp <;> omega)]
              simp [checkB, formB, q_like_not, q_like_and, q_like_or, q_like_is, q_like_below, q_like_like]
            ·
              have hp : Fd p := hd.item (by simp)
              have hq : Fd q := hd.item (by simp)
              rw [if_pos (by simp)]
              refine ⟨_, rfl, _, lk_3 hA, ?_⟩
              refine (is_like_ok hl (hp.pl (by omega)) (hq.pl (by omega))).mono ?_
              rintro r S1 ⟨rfl, rfl⟩
              simp! only
              simp [checkB, formB, q_like_not, q_like_and, q_like_or, q_like_is, q_like_below, q_like_like]
            · rw [if_neg (by simp <;> omega)]
              simp [checkB, formB, q_like_not, q_like_and, q_like_or, q_like_is, q_like_below, q_like_like]
          · rw [tb_not]
            rw [if_neg (by simp)]
            refine ⟨_, rfl, _, gt_tup.mpr ⟨rfl, gt_cons.mpr ⟨_, gt_name.mpr ⟨by simp, rfl⟩, gt_cons.mpr ⟨_, gt_name.mpr ⟨by simp, rfl⟩, gt_nil.mpr rfl⟩⟩⟩, ?_⟩
            simp! only
            rcases ps with _ | ⟨p, _ | ⟨q, _ | ⟨r, ps⟩⟩⟩
            · rw [if_neg (by simp <;> omega)]
              simp [checkB, formB, q_not_not, q_not_and, q_not_or, q_not_is, q_not_below, q_not_like]
            ·
              have hp : Fd p := hd.item (by simp)
              rw [if_pos (by simp)]
              refine ⟨_, rfl, _, lk_4 hA, ?_⟩
              refine (are_ok (self := recF 4 (b_is_check A) n) (rc := checkB cs n) (fun x hx S => check_is hA hl n x S (dep_item hn (List.mem_cons_of_mem _ hx)) (hd.item (List.mem_cons_of_mem _ hx)))).mono ?_
              rintro r S1 ⟨rfl, rfl⟩
              simp! only
              simp [checkB, formB, q_not_not, q_not_and, q_not_or, q_not_is, q_not_below, q_not_like]
            · rw [if_neg (by simp <;> omega)]
              simp [checkB, formB, q_not_not, q_not_and, q_not_or, q_not_is, q_not_below, q_not_like]
            · rw [if_neg (by simp <;> omega)]
              simp [checkB, formB, q_not_not, q_not_and, q_not_or, q_not_is, q_not_below, q_not_like]
          · rw [tb_and]
            rw [if_neg (by simp)]
            refine ⟨_, rfl, _, gt_tup.mpr ⟨rfl, gt_cons.mpr ⟨_, gt_name.mpr ⟨by simp, rfl⟩, gt_cons.mpr ⟨_, gt_name.mpr ⟨by simp, rfl⟩, gt_nil.mpr rfl⟩⟩⟩, ?_⟩
            simp! only
            rcases ps with _ | ⟨p, _ | ⟨q, _ | ⟨r, ps⟩⟩⟩
            · rw [if_neg (by simp <;> omega)]
              simp [checkB, formB, q_and_not, q_and_and, q_and_or, q_and_is, q_and_below, q_and_like]
            · rw [if_neg (by simp <;> omega)]
              simp [checkB, formB, q_and_not, q_and_and, q_and_or, q_and_is, q_and_below, q_and_like]
            ·
              have hp : Fd p := hd.item (by simp)
              have hq : Fd q := hd.item (by simp)
              rw [if_pos (by simp)]
              refine ⟨_, rfl, _, lk_4 hA, ?_⟩
              refine (are_ok (self := recF 4 (b_is_check A) n) (rc := checkB cs n) (fun x hx S => check_is hA hl n x S (dep_item hn (List.mem_cons_of_mem _ hx)) (hd.item (List.mem_cons_of_mem _ hx)))).mono ?_
              rintro r S1 ⟨rfl, rfl⟩
              simp! only
              simp [checkB, formB, q_and_not, q_and_and, q_and_or, q_and_is, q_and_below, q_and_like]
            · rw [if_neg (by simp <;> omega)]
              simp [checkB, formB, q_and_not, q_and_and, q_and_or, q_and_is, q_and_below, q_and_like]
          · rw [tb_or]
            rw [if_neg (by simp)]
            refine ⟨_, rfl, _, gt_tup.mpr ⟨rfl, gt_cons.mpr ⟨_, gt_name.mpr ⟨by simp, rfl⟩, gt_cons.mpr ⟨_, gt_name.mpr ⟨by simp, rfl⟩, gt_nil.mpr rfl⟩⟩⟩, ?_⟩
            simp! only
            rcases ps with _ | ⟨p, _ | ⟨q, _ | ⟨r, ps⟩⟩⟩
            · rw [if_neg (by simp <;> omega)]
              simp [checkB, formB, q_or_not, q_or_and, q_or_or, q_or_is, q_or_below, q_or_like]
            · rw [if_neg (by simp <;> omega)]
              simp [checkB, formB, q_or_not, q_or_and, q_or_or, q_or_is, q_or_below, q_or_like]
            ·
              have hp : Fd p := hd.item (by simp)
              have hq : Fd q := hd.item (by simp)
              rw [if_pos (by simp)]
              refine ⟨_, rfl, _, lk_4 hA, ?_⟩
              refine (are_ok (self := recF 4 (b_is_check A) n) (rc := checkB cs n) (fun x hx S => check_is hA hl n x S (dep_item hn (List.mem_cons_of_mem _ hx)) (hd.item (List.mem_cons_of_mem _ hx)))).mono ?_
              rintro r S1 ⟨rfl, rfl⟩
              simp! only
              simp [checkB, formB, q_or_not, q_or_and, q_or_or, q_or_is, q_or_below, q_or_like]
            · rw [if_neg (by simp <;> omega)]
              simp [checkB, formB, q_or_not, q_or_and, q_or_or, q_or_is, q_or_below, q_or_like]
          · have e2 : (tb_FORMS A).lookup w = none := by
              simp [tb_FORMS, List.lookup, h1, h2, h3, h4, h5, h6]
            rw [e2]
            rw [if_pos (by simp)]
            rcases ps with _ | ⟨p, _ | ⟨q, _ | ⟨r, ps⟩⟩⟩ <;> simp [checkB, formB, h1, h2, h3, h4, h5, h6]
        | _ =>
          simp! only [strB]
          rw [if_neg (by simp; omega)]
          simp [checkB]
    | _ => simp [tupB, checkB]
end G

set_option Elab.async false
set_option linter.all false
set_option maxRecDepth 1000000
set_option maxHeartbeats 1000000
/- ev9 -/
namespace G
variable [Wld]
open PySem PySem.Spec PyProof.Rows L2
local macro_rules
  | `(tactic| simp! only) => `(tactic| simp only [ev0, ev1, ev2, ev3, ev4, ev5, ev6, ev7, ev8, ev9, wp_ix_refC, wp_setItE, List.map_cons, List.map_nil, List.replicate, List.cons_append, List.nil_append, List.length_cons, List.length_nil, List.set_cons_succ, List.set_cons_zero, List.getElem?_cons_zero, List.getElem?_cons_succ, Option.map_some, Option.bind_some, List.all_cons, List.all_nil, List.isEmpty_nil, List.isEmpty_cons, eq_self, if_true, if_false, ite_true, ite_false, Option.some.injEq, exists_eq_left', exists_eq_left, Nat.reduceAdd, Nat.reduceLT, Nat.reduceLeDiff, Int.reduceLE, Int.reduceLT, Int.reduceNeg, Int.reducePow, Int.reduceToNat])
  | `(tactic| simp! only [$xs,*]) => `(tactic| simp only [ev0, ev1, ev2, ev3, ev4, ev5, ev6, ev7, ev8, ev9, wp_ix_refC, wp_setItE, List.map_cons, List.map_nil, List.replicate, List.cons_append, List.nil_append, List.length_cons, List.length_nil, List.set_cons_succ, List.set_cons_zero, List.getElem?_cons_zero, List.getElem?_cons_succ, Option.map_some, Option.bind_some, List.all_cons, List.all_nil, List.isEmpty_nil, List.isEmpty_cons, eq_self, if_true, if_false, ite_true, ite_false, Option.some.injEq, exists_eq_left', exists_eq_left, Nat.reduceAdd, Nat.reduceLT, Nat.reduceLeDiff, Int.reduceLE, Int.reduceLT, Int.reduceNeg, Int.reducePow, Int.reduceToNat, $xs,*])
theorem putD_new {kvs : List (Key × D)} {k : Key} {v : D} (h : ∀ kv ∈ kvs, kv.1 ≠ k) : putD kvs k v = kvs ++ [(k, v)] := by
  unfold putD
  rw [if_neg]
  intro e
  obtain ⟨kv, hkv, e⟩ := List.any_eq_true.mp e
  exact h kv hkv (of_decide_eq_true e)
theorem merge_nodup : ∀ (more kvs : List (Key × D)), ((kvs ++ more).map (·.1)).Nodup → mergeD kvs more = kvs ++ more
  | [], kvs, _ => by simp [mergeD]
  | p :: more, kvs, h => by
    have e : mergeD kvs (p :: more) = mergeD (putD kvs p.1 p.2) more := rfl
    rw [e, putD_new, merge_nodup more]
    · simp
    · simpa using h
    · intro kv hkv hk
      rw [List.map_append, List.map_cons] at h
      have := (List.nodup_append.mp h).2.2 kv.1 (List.mem_map_of_mem hkv) p.1 (List.mem_cons_self ..)
      exact this hk
/-- a plan as a dict -/
def layK (ts : Lay) : List (Key × D) := ts.map fun t => (.inr t.1, colsD t.2)
theorem prs_lay : ∀ ts : Lay, prsOf (ts.map tabD) = some (layK ts)
  | [] => rfl
  | t :: ts => by
    have ih := prs_lay ts
    show (keyOf (.str t.1)).bind (fun k => (prsOf (ts.map tabD)).map ((k, colsD t.2) :: ·)) = _
    rw [ih]
    rfl
theorem keys_lay (ts : Lay) : (layK ts).map (·.1) = (ts.map (·.1)).map Sum.inr := by
  unfold layK
  rw [List.map_map, List.map_map]
  rfl
theorem inr_nd {xs : List Str} (h : xs.Nodup) : (xs.map (Sum.inr : Str → Key)).Nodup := by
  rw [List.nodup_iff_pairwise_ne] at h ⊢
  exact List.Pairwise.map _ (fun a b hab e => hab (by cases e; rfl)) h
theorem merge_lay {ts : Lay} (h : (ts.map (·.1)).Nodup) : mergeD [] (layK ts) = layK ts := by
  rw [merge_nodup (layK ts) [] (by rw [List.nil_append, keys_lay]; exact inr_nd h), List.nil_append]
/-- the columns of a table that is so called -/
def colsIn (ts : Lay) (d : D) : Option Cols := match d with
  | .str x => (ts.find? fun t => t.1 == x).map (·.2)
  | _ => none
def colsO : Option Cols → D
  | some cs => colsD cs
  | none => .non
theorem val_lay (x : Str) : ∀ ts : Lay, valD (layK ts) (.inr x) = (colsIn ts (.str x)).map colsD
  | [] => rfl
  | p :: ps => by
    have ih := val_lay x ps
    unfold valD layK colsIn at ih ⊢
    by_cases e : p.1 = x
    · subst e; simp
    · simpa [e] using ih
theorem columns_in_ok {S : Sto} {ts : Lay} (g : GoodLay ts) {d : D} (h : Pl d) : Fp f_columns_in [.d (layD ts), .d d] S fun r S' => r = .d (colsO (colsIn ts d)) ∧ S' = S := by
  obtain ⟨k, hk⟩ := h.k
  unfold f_columns_in
  rw [fp_runF]
  simp! only [b_columns_in, kd_D hk, isK_str hk, layD]
  cases d with
  | str x =>
    rw [if_pos (by rfl)]
    simp! only [mGet2, wp_dictT (prs_lay ts), merge_lay g.nd]
    refine ⟨_, rfl, ?_⟩
    rw [val_lay]
    cases colsIn ts (.str x) <;> rfl
  | _ =>
    rw [if_neg (by simp [strB])]
    rfl
/-! ### names in order -/
def namesB (cs : Cols) (d : D) : Bool := match d with
  | .tup ds => (match strsOf ds with
    | some xs => decide (xs = (cs.map (·.1)).filter fun x => decide (x ∈ xs))
    | none => false)
  | _ => false
def isS (d : D) : D := .bl (strB d)
theorem strs_all : ∀ {ds : List D}, ds.all strB = true → ∃ xs : List Str, ds = xs.map D.str
  | [], _ => ⟨[], rfl⟩
  | d :: ds, h => by
    simp only [List.all_cons, Bool.and_eq_true] at h
    obtain ⟨xs, rfl⟩ := strs_all h.2
    cases d with
    | str x => exact ⟨x :: xs, rfl⟩
    | _ => exact absurd h.1 (by simp [strB])
theorem strs_none : ∀ {ds : List D}, ds.all strB = false → strsOf ds = none
  | [], h => by simp at h
  | d :: ds, h => by
    cases d <;> first | rfl | skip
    rename_i x
    have h : ds.all strB = false := by simpa [strB] using h
    unfold strsOf
    rw [strs_none h]
    rfl
theorem strsOf_str (xs : List Str) : strsOf (xs.map D.str) = some xs := strsOf_map xs
theorem inD_strs (w : Str) (xs : List Str) : inD (.str w) (xs.map D.str) = decide (w ∈ xs) := by
  unfold inD
  induction xs with
  | nil => simp
  | cons x xs ih =>
    rw [List.map_cons, List.any_cons, ih]
    by_cases h : x = w
    · subst h; simp [eqS]
    · have h2 : (x == w) = false := beq_eq_false_iff_ne.mpr h
      have h3 : ¬ w = x := fun z => h z.symm
      simp [eqS, h2, h3]
theorem zipF_map {α : Type} [DecidableEq α] {n : Nat} {f : α → D} (h : ∀ a b, deq n (f a) (f b) = some (decide (a = b))) : ∀ {xs ys : List α}, xs.length = ys.length → zipF (deq n) (xs.map f) (ys.map f) = some (decide (xs = ys))
  | [], [], _ => rfl
  | x :: xs, y :: ys, hl => by
    show (match deq n (f x) (f y), zipF (deq n) (xs.map f) (ys.map f) with
      | some a, some b => some (a && b)
      | _, _ => none) = _
    rw [h x y, zipF_map h (by simpa using hl)]
    simp
theorem deq_lst_map {α : Type} [DecidableEq α] {n : Nat} {f : α → D} (h : ∀ a b, deq n (f a) (f b) = some (decide (a = b))) {xs ys : List α} : deq (n + 1) (.lst (xs.map f)) (.lst (ys.map f)) = some (decide (xs = ys)) := by
  show (if (xs.map f).length = (ys.map f).length then zipF (deq n) (xs.map f) (ys.map f) else some false) = _
  by_cases hl : xs.length = ys.length
  · rw [if_pos (by simpa using hl), zipF_map h hl]
  · rw [if_neg (by simpa using hl)]
    rw [decide_eq_false (fun e => hl (by rw [e]))]
theorem deq_str {n : Nat} (a b : Str) : deq n (.str a) (.str b) = some (decide (a = b)) := by
  rw [deq_flat rfl]
  show some (a == b) = _
  congr 1
theorem deq_int {n : Nat} (a b : Int) : deq n (.int a) (.int b) = some (decide (a = b)) := by
  rw [deq_flat rfl]
  show some (a == b) = _
  congr 1
theorem datsS : ∀ xs : List Str, datsB (xs.map D.str) = true
  | [] => rfl
  | x :: xs => by
    show (datB (.str x) && datsB (xs.map D.str)) = true
    rw [datsS xs]
    rfl
theorem datsI : ∀ xs : List Int, datsB (xs.map D.int) = true
  | [] => rfl
  | x :: xs => by
    show (datB (.int x) && datsB (xs.map D.int)) = true
    rw [datsI xs]
    rfl
def colNm (d : D) : D := match d with
  | .tup [x, _] => x
  | d => d
def colIn (xs : List Str) (d : D) : Bool := match d with
  | .tup [.str x, _] => decide (x ∈ xs)
  | _ => false
theorem filt_cols (cs : Cols) (xs : List Str) : ((cs.map colD).filter (colIn xs)).map colNm = ((cs.map (·.1)).filter fun x => decide (x ∈ xs)).map D.str := by
  rw [List.filter_map, List.map_map, List.filter_map, List.map_map]
  rfl
theorem some_names_ok {S : Sto} {cs : Cols} (hc : cs.length ≤ 1000) {d : D} (h : Fd d) : Fp f_are_some_names [.d (colsD cs), .d d] S fun r S' => r = .d (.bl (namesB cs d)) ∧ S' = S := by
  obtain ⟨k, hk⟩ := Fd.kd h.dat
  unfold f_are_some_names
  rw [fp_runF]
  simp! only [e_are_some_names_0, kd_D hk, isK_tup hk]
  cases d with
  | tup ds =>
    rw [if_neg (by simp [tupB])]
    simp! only
    refine wp_compL_fm (fun _ => true) isS (fun _ => wat_nil _ _) ?_ ?_
    · intro d hd
      obtain ⟨kd, hkd⟩ := Fd.kd (h.item hd).dat
      refine ⟨_, gt_name.mpr ⟨by simp, rfl⟩, ?_⟩
      simp! only [kd_D hkd, isK_str hkd]
      rfl
    · rw [List.filter_eq_self.mpr (fun _ _ => rfl)]
      refine ⟨_, blsOf_map strB ds, ?_⟩
      rw [List.all_map]
      have hid : (id ∘ strB) = strB := rfl
      rw [hid]
      by_cases ha : ds.all strB = true
      · rw [if_neg (by rw [ha]; simp)]
        obtain ⟨xs, rfl⟩ := strs_all ha
        have hB : namesB cs (.tup (xs.map D.str)) = decide (xs = (cs.map (·.1)).filter fun x => decide (x ∈ xs)) := by
          unfold namesB
          dsimp only
          rw [strsOf_str]
        simp! only [e_are_some_names_1, colsD]
        refine wp_compL_fm (colIn xs) colNm (fun _ => wat_nil _ _) ?_ ?_
        · intro d hd
          obtain ⟨c, hc, rfl⟩ := List.mem_map.mp hd
          refine ⟨_, gt_tup.mpr ⟨rfl, gt_cons.mpr ⟨_, gt_name.mpr ⟨by simp, rfl⟩, gt_cons.mpr ⟨_, gt_name.mpr ⟨by simp, rfl⟩, gt_nil.mpr rfl⟩⟩⟩, ?_⟩
          simp! only [colD, inD_strs]
          refine ⟨rfl, ?_⟩
          split <;> trivial
        · rw [filt_cols]
          refine wp_eqG.mpr ⟨_, rfl, _, rfl, datsS _, datsS _, rfl, _, deq_lst_map deq_str, ?_⟩
          simp! only
          rw [hB]
      · rw [if_pos (by simpa using ha)]
        have : strsOf ds = none := strs_none (by simpa using ha)
        refine ⟨?_, rfl⟩
        unfold namesB
        dsimp only
        rw [this]
  | _ =>
    rw [if_pos (by simp [tupB])]
    rfl
end G

set_option Elab.async false
set_option linter.all false
set_option maxRecDepth 1000000
set_option maxHeartbeats 1000000
/- ev9 -/
namespace G
variable [Wld]
open PySem PySem.Spec PyProof.Rows L2
local macro_rules
  | `(tactic| simp! only) => `(tactic| simp only [ev0, ev1, ev2, ev3, ev4, ev5, ev6, ev7, ev8, ev9, wp_ix_refC, wp_setItE, List.map_cons, List.map_nil, List.replicate, List.cons_append, List.nil_append, List.length_cons, List.length_nil, List.set_cons_succ, List.set_cons_zero, List.getElem?_cons_zero, List.getElem?_cons_succ, Option.map_some, Option.bind_some, List.all_cons, List.all_nil, List.isEmpty_nil, List.isEmpty_cons, eq_self, if_true, if_false, ite_true, ite_false, Option.some.injEq, exists_eq_left', exists_eq_left, Nat.reduceAdd, Nat.reduceLT, Nat.reduceLeDiff, Int.reduceLE, Int.reduceLT, Int.reduceNeg, Int.reducePow, Int.reduceToNat])
  | `(tactic| simp! only [$xs,*]) => `(tactic| simp only [ev0, ev1, ev2, ev3, ev4, ev5, ev6, ev7, ev8, ev9, wp_ix_refC, wp_setItE, List.map_cons, List.map_nil, List.replicate, List.cons_append, List.nil_append, List.length_cons, List.length_nil, List.set_cons_succ, List.set_cons_zero, List.getElem?_cons_zero, List.getElem?_cons_succ, Option.map_some, Option.bind_some, List.all_cons, List.all_nil, List.isEmpty_nil, List.isEmpty_cons, eq_self, if_true, if_false, ite_true, ite_false, Option.some.injEq, exists_eq_left', exists_eq_left, Nat.reduceAdd, Nat.reduceLT, Nat.reduceLeDiff, Int.reduceLE, Int.reduceLT, Int.reduceNeg, Int.reducePow, Int.reduceToNat, $xs,*])
def toT (cs : Cols) : List (Str × Str) := cs.map fun c => (c.1, kindS c.2)
theorem colsD_T (cs : Cols) : colsD cs = colsT (toT cs) := by
  unfold colsD colsT toT
  rw [List.map_map]
  rfl
/-- what is a right on such columns -/
def thingB (cs : Cols) (d : D) : Bool := match d with
  | .non => true
  | .tup [c, ns] => (isNon c || checkB (toT cs) 60 c) && namesB cs ns
  | _ => false
def rightB (ts : Lay) (tb th : D) : Bool := match colsIn ts tb with
  | some cs => thingB cs th
  | none => false
theorem colsIn_ok {ts : Lay} (g : GoodLay ts) {d : D} {cs : Cols} (h : colsIn ts d = some cs) : ColsOk cs 4 := by
  unfold colsIn at h
  cases d <;> simp only [reduceCtorEq] at h
  obtain ⟨t, ht, rfl⟩ := Option.map_eq_some_iff.mp h
  exact g.cl t (List.mem_of_find?_eq_some ht)
theorem is_right_ok {A : FA} (hA : Dis A) {S : Sto} {ts : Lay} (g : GoodLay ts) {tb th : D} (hb : Fd tb) (hd : Fd th) : Fp (f_is_right A) [.d (layD ts), .d tb, .d th] S fun r S' => r = .d (.bl (rightB ts tb th)) ∧ S' = S := by
  obtain ⟨k, hk⟩ := Fd.kd hd.dat
  unfold f_is_right
  rw [fp_runF]
  simp! only [e_is_right_0]
  refine (columns_in_ok g (hb.pl (by omega))).mono ?_
  rintro r S1 ⟨rfl, rfl⟩
  unfold rightB
  cases hc : colsIn ts tb with
  | none =>
    simp! only [e_is_right_1, colsO]
    rw [if_pos (by rfl)]
    try trivial
  | some cs =>
    have hcs := colsIn_ok g hc
    have hcl : cs.length ≤ 1000 := by have := hcs.hi; omega
    simp! only [e_is_right_1, colsO, colsD]
    rw [if_neg (by simp [isNon])]
    simp! only [e_is_right_2]
    by_cases hn : isNon th = true
    · rw [if_pos hn]
      cases th <;> simp [isNon] at hn
      rfl
    rw [if_neg hn]
    simp! only [e_is_right_3, kd_D hk, isK_tup hk]
    cases th with
    | tup ds =>
      rw [if_neg (by simp [tupB])]
      simp! only
      rcases ds with _ | ⟨c, _ | ⟨ns, _ | ⟨z, ds⟩⟩⟩
      · rw [if_pos (by simp)]
        rfl
      · rw [if_pos (by simp)]
        rfl
      · rw [if_neg (by simp)]
        simp! only [e_is_right_4]
        simp! only [e_is_right_5]
        have hfc : Fd c := hd.item (by simp)
        have hfn : Fd ns := hd.item (by simp)
        have nm := fun S => some_names_ok (S := S) hcl hfn
        unfold colsD at nm
        have hB : thingB cs (.tup [c, ns]) = ((isNon c || checkB (toT cs) 60 c) && namesB cs ns) := rfl
        by_cases hcn : isNon c = true
        · rw [if_pos hcn]
          refine (nm S1).mono ?_
          rintro r S2 ⟨rfl, rfl⟩
          simp! only
          rw [hB, hcn]
          simp
        · rw [if_neg hcn]
          have ck := check_is hA (cs := toT cs) (by unfold toT; simpa using hcl) 60 c S1 (by have := hfc.d; omega) hfc
          rw [← colsD_T] at ck
          unfold colsD at ck
          refine ck.mono ?_
          rintro r S2 ⟨rfl, rfl⟩
          have hcn' : isNon c = false := by simpa using hcn
          refine ⟨_, rfl, ?_⟩
          cases hck : checkB (toT cs) 60 c with
          | true =>
            rw [if_pos rfl]
            refine (nm _).mono ?_
            rintro r S3 ⟨rfl, rfl⟩
            simp! only
            rw [hB, hcn', hck]
            simp
          | false =>
            rw [if_neg (by simp), hB, hcn', hck]
            exact ⟨rfl, rfl⟩
      · rw [if_pos (by simp; omega)]
        rfl
    | _ => first | (exact absurd rfl hn) | (rw [if_pos (by simp [tupB])]; rfl)
end G

set_option Elab.async false
set_option linter.all false
set_option maxRecDepth 1000000
set_option maxHeartbeats 1000000
/- ev9 -/
namespace G
variable [Wld]
open PySem PySem.Spec PyProof.Rows L2
local macro_rules
  | `(tactic| simp! only) => `(tactic| simp only [ev0, ev1, ev2, ev3, ev4, ev5, ev6, ev7, ev8, ev9, wp_ix_refC, wp_setItE, List.map_cons, List.map_nil, List.replicate, List.cons_append, List.nil_append, List.length_cons, List.length_nil, List.set_cons_succ, List.set_cons_zero, List.getElem?_cons_zero, List.getElem?_cons_succ, Option.map_some, Option.bind_some, List.all_cons, List.all_nil, List.isEmpty_nil, List.isEmpty_cons, eq_self, if_true, if_false, ite_true, ite_false, Option.some.injEq, exists_eq_left', exists_eq_left, Nat.reduceAdd, Nat.reduceLT, Nat.reduceLeDiff, Int.reduceLE, Int.reduceLT, Int.reduceNeg, Int.reducePow, Int.reduceToNat])
  | `(tactic| simp! only [$xs,*]) => `(tactic| simp only [ev0, ev1, ev2, ev3, ev4, ev5, ev6, ev7, ev8, ev9, wp_ix_refC, wp_setItE, List.map_cons, List.map_nil, List.replicate, List.cons_append, List.nil_append, List.length_cons, List.length_nil, List.set_cons_succ, List.set_cons_zero, List.getElem?_cons_zero, List.getElem?_cons_succ, Option.map_some, Option.bind_some, List.all_cons, List.all_nil, List.isEmpty_nil, List.isEmpty_cons, eq_self, if_true, if_false, ite_true, ite_false, Option.some.injEq, exists_eq_left', exists_eq_left, Nat.reduceAdd, Nat.reduceLT, Nat.reduceLeDiff, Int.reduceLE, Int.reduceLT, Int.reduceNeg, Int.reducePow, Int.reduceToNat, $xs,*])
/-! ### strip(letters) -/
theorem tw_all {p : Nat → Bool} : ∀ {l : List Nat}, (l.takeWhile p).length = l.length → l.all p = true
  | [], _ => rfl
  | c :: r, h => by
    rw [List.takeWhile_cons] at h
    by_cases hc : p c = true
    · rw [if_pos hc, List.length_cons, List.length_cons] at h
      rw [List.all_cons, hc, tw_all (by omega)]
      rfl
    · rw [if_neg hc] at h; simp at h
theorem tw_self {p : Nat → Bool} : ∀ {l : List Nat}, l.all p = true → l.takeWhile p = l
  | [], _ => rfl
  | c :: r, h => by
    rw [List.all_cons, Bool.and_eq_true] at h
    rw [List.takeWhile_cons, if_pos h.1, tw_self h.2]
theorem tw_len {p : Nat → Bool} : ∀ l : List Nat, (l.takeWhile p).length ≤ l.length
  | [] => Nat.le_refl _
  | c :: r => by
    rw [List.takeWhile_cons]
    split
    · simpa using tw_len r
    · simp
theorem tw_drop {p : Nat → Bool} : ∀ {l : List Nat}, l.all p = false → ∃ c r, l.drop (l.takeWhile p).length = c :: r ∧ p c = false
  | [], h => by simp at h
  | c :: r, h => by
    rw [List.takeWhile_cons]
    by_cases hc : p c = true
    · rw [if_pos hc]
      rw [List.all_cons, hc, Bool.true_and] at h
      obtain ⟨d, t, h1, h2⟩ := tw_drop h
      exact ⟨d, t, by simpa using h1, h2⟩
    · rw [if_neg hc]
      exact ⟨c, r, rfl, by simpa using hc⟩
theorem strip_empty (x y : Str) : (Txt.stripChars x y == Str.ofString "") = x.cps.toList.all fun c => y.cps.contains c := by
  have e0 : (Str.ofString "").cps.toList = [] := by decide +kernel
  have key : (Txt.stripChars x y == Str.ofString "") = decide ((Txt.stripChars x y).cps.toList = []) := by
    rw [Bool.eq_iff_iff, beq_iff_eq, decide_eq_true_eq]
    exact ⟨fun e => by rw [e, e0], fun e => Str.ext' (Array.toList_inj.mp (by rw [e, e0]))⟩
  rw [key]
  unfold Txt.stripChars
  rw [PyProof.Rows.stripBy_eq]
  generalize hp : (fun c => y.cps.contains c) = p
  have hp' : y.cps.contains = p := hp
  rw [hp']
  have elo : stripLo p true x = (x.cps.toList.takeWhile p).length := by
    unfold stripLo
    rw [if_pos rfl]
  have ehi : ∀ lo, stripHi p true x lo = x.length - ((x.cps.toList.drop lo).reverse.takeWhile p).length := fun lo => by
    unfold stripHi
    rw [if_pos rfl]
  rw [elo, ehi]
  have esub : ∀ i j, (Builtin.Str.strSub x i j).cps.toList = (x.cps.toList.drop i).take (j - i) := fun i j => by
    unfold Builtin.Str.strSub
    rw [Array.toList_extract, List.extract_eq_take_drop]
  rw [esub]
  have hlen : x.length = x.cps.toList.length := by simp [Str.length]
  rw [hlen]
  by_cases ha : x.cps.toList.all p = true
  · rw [ha, decide_eq_true_eq]
    have : (x.cps.toList.takeWhile p).length = x.cps.toList.length := by
      have : x.cps.toList.takeWhile p = x.cps.toList := tw_self ha
      rw [this]
    rw [this]
    simp
  · have ha' : x.cps.toList.all p = false := by simpa using ha
    rw [ha']
    obtain ⟨c, r, h1, h2⟩ := tw_drop ha'
    rw [h1]
    refine decide_eq_false fun z => ?_
    have hl := congrArg List.length h1
    rw [List.length_drop, List.length_cons] at hl
    have hr : (((c :: r).reverse).takeWhile p).length ≤ r.length := by
      have h3 := tw_len (p := p) (c :: r).reverse
      rw [List.length_reverse, List.length_cons] at h3
      by_cases h4 : (((c :: r).reverse).takeWhile p).length = r.length + 1
      · have := tw_all (p := p) (l := (c :: r).reverse) (by rw [h4]; simp)
        rw [List.all_reverse, List.all_cons, h2] at this
        cases this
      · omega
    have hz := congrArg List.length z
    rw [List.length_take, List.length_cons, List.length_nil] at hz
    omega
theorem strip_letters (x : Str) : (Txt.stripChars x (Str.ofString "abcdefghijklmnopqrstuvwxyz") == Str.ofString "") = letB x := by
  rw [strip_empty]
  unfold letB
  congr 1
  funext c
  rw [Bool.eq_iff_iff, Array.contains_iff_mem, decide_eq_true_eq, ← Array.mem_toList_iff]
  exact letters_mem c
/-! ### the law's worths -/
theorem lfits_ok {S : Sto} (b : Bool) {d : D} (h : Pl d) : Fp f__law_fits [.d d, .d (.str (kindS b))] S fun r S' => r = .d (.bl (fitB (kindS b) d)) ∧ S' = S := by
  obtain ⟨k, hk⟩ := h.k
  unfold f__law_fits
  rw [fp_runF]
  simp! only [b__law_fits]
  by_cases hn : isNon d = true
  · rw [if_pos hn]
    cases d <;> simp [isNon] at hn
    rfl
  rw [if_neg hn]
  have hf : fitB (kindS b) d = if b = true then numB d else namB d := by
    have e : (kindS b == "number") = b := kind_num b
    cases d <;> first | (exact absurd rfl hn) | (unfold fitB; rw [e])
  rw [hf, kind_num]
  cases b with
  | true =>
    rw [if_pos rfl, if_pos rfl]
    simp! only [kd_D hk]
    cases d with
    | int i =>
      cases hk
      rw [if_pos (by rfl), if_pos (by rfl)]
      simp! only [dPow_int (show (0 : Int) ≤ 9 ∧ (9 : Int) ≤ 1000 ∧ (10 : Int).natAbs < 1000 by omega), dLe_int]
      have e : decide ((if i < 0 then -i else i) ≤ (1000000000 : Int)) = numB (.int i) := by
        unfold numB
        rw [Bool.eq_iff_iff, Bool.and_eq_true, decide_eq_true_eq, decide_eq_true_eq, decide_eq_true_eq]
        split <;> omega
      rw [← e]
    | _ => first | (exact absurd rfl hn) | (cases hk <;> first | done | simp [isK, numB])
  | false =>
    rw [if_neg (by simp), if_neg (by simp)]
    simp! only [kd_D hk]
    cases d with
    | str x =>
      have hl := h.s x rfl
      cases hk
      simp! only [isK, mChain, wp_stripC]
      refine ⟨hl, ?_⟩
      have hB : namB (.str x) = (decide (1 ≤ x.length) && (decide (x.length ≤ 8) && letB x)) := rfl
      by_cases h1 : 1 ≤ x.length
      · rw [if_pos (decide_eq_true (by omega))]
        simp! only [dLe_int]
        by_cases h2 : x.length ≤ 8
        · rw [if_pos (decide_eq_true (by omega))]
          simp! only [wp_stripC, strip_letters]
          refine ⟨hl, ?_⟩
          rw [hB, decide_eq_true h1, decide_eq_true h2]
          simp
        · rw [if_neg (by rw [decide_eq_false (by omega)]; simp)]
          rw [hB, decide_eq_false h2]
          simp
      · rw [if_neg (by rw [decide_eq_false (by omega)]; simp)]
        simp! only
        rw [hB, decide_eq_false h1]
        simp
    | _ => first | (exact absurd rfl hn) | (cases hk <;> first | done | simp [isK, namB])
end G

set_option Elab.async false
set_option linter.all false
set_option maxRecDepth 1000000
set_option maxHeartbeats 1000000
/- ev9 -/
namespace G
variable [Wld]
open PySem PySem.Spec PyProof.Rows L2
local macro_rules
  | `(tactic| simp! only) => `(tactic| simp only [ev0, ev1, ev2, ev3, ev4, ev5, ev6, ev7, ev8, ev9, wp_ix_refC, wp_setItE, List.map_cons, List.map_nil, List.replicate, List.cons_append, List.nil_append, List.length_cons, List.length_nil, List.set_cons_succ, List.set_cons_zero, List.getElem?_cons_zero, List.getElem?_cons_succ, Option.map_some, Option.bind_some, List.all_cons, List.all_nil, List.isEmpty_nil, List.isEmpty_cons, eq_self, if_true, if_false, ite_true, ite_false, Option.some.injEq, exists_eq_left', exists_eq_left, Nat.reduceAdd, Nat.reduceLT, Nat.reduceLeDiff, Int.reduceLE, Int.reduceLT, Int.reduceNeg, Int.reducePow, Int.reduceToNat])
  | `(tactic| simp! only [$xs,*]) => `(tactic| simp only [ev0, ev1, ev2, ev3, ev4, ev5, ev6, ev7, ev8, ev9, wp_ix_refC, wp_setItE, List.map_cons, List.map_nil, List.replicate, List.cons_append, List.nil_append, List.length_cons, List.length_nil, List.set_cons_succ, List.set_cons_zero, List.getElem?_cons_zero, List.getElem?_cons_succ, Option.map_some, Option.bind_some, List.all_cons, List.all_nil, List.isEmpty_nil, List.isEmpty_cons, eq_self, if_true, if_false, ite_true, ite_false, Option.some.injEq, exists_eq_left', exists_eq_left, Nat.reduceAdd, Nat.reduceLT, Nat.reduceLeDiff, Int.reduceLE, Int.reduceLT, Int.reduceNeg, Int.reducePow, Int.reduceToNat, $xs,*])
/-- columns as a dict -/
def colsK (cs : Cols) : List (Key × D) := cs.map fun c => (.inr c.1, .str (kindS c.2))
theorem prs_cols : ∀ cs : Cols, prsOf (cs.map colD) = some (colsK cs)
  | [] => rfl
  | c :: cs => by
    have ih := prs_cols cs
    show (keyOf (.str c.1)).bind (fun k => (prsOf (cs.map colD)).map ((k, .str (kindS c.2)) :: ·)) = _
    rw [ih]
    rfl
theorem keys_cols (cs : Cols) : (colsK cs).map (·.1) = (cs.map (·.1)).map Sum.inr := by
  unfold colsK
  rw [List.map_map, List.map_map]
  rfl
theorem merge_cols {cs : Cols} (h : (cs.map (·.1)).Nodup) : mergeD [] (colsK cs) = colsK cs := by
  rw [merge_nodup (colsK cs) [] (by rw [List.nil_append, keys_cols]; exact inr_nd h), List.nil_append]
/-- the kind of a column that is so called -/
def kindIn (cs : Cols) (x : Str) : Option Bool := (cs.find? fun c => c.1 == x).map (·.2)
theorem val_cols (x : Str) : ∀ cs : Cols, valD (colsK cs) (.inr x) = (kindIn cs x).map fun b => .str (kindS b)
  | [] => rfl
  | p :: ps => by
    have ih := val_cols x ps
    unfold valD colsK kindIn at ih ⊢
    by_cases e : p.1 = x
    · subst e; simp
    · simpa [e] using ih
theorem kindD_T (cs : Cols) (x : Str) : kindD (toT cs) (.str x) = (match kindIn cs x with | some b => .str (kindS b) | none => .non) := by
  unfold kindD toT kindIn
  dsimp only
  rw [List.find?_map]
  cases h : cs.find? (fun c => c.1 == x) with
  | none =>
    have : (cs.find? ((fun c : Str × Str => c.1 == x) ∘ fun c => (c.1, kindS c.2))) = none := h
    rw [this]
    rfl
  | some c =>
    have : (cs.find? ((fun c : Str × Str => c.1 == x) ∘ fun c => (c.1, kindS c.2))) = some c := h
    rw [this]
    rfl
theorem cutD_from {ds : List D} {n : Nat} : cutD ds (some ((n : Nat) : Int)) none = ds.drop n := by
  unfold cutD
  rw [HT.sIx_none, HT.sIx_nat]
  by_cases h : n ≤ ds.length
  · rw [Nat.min_eq_left h]
    exact List.take_of_length_le (by simp)
  · rw [Nat.min_eq_right (by omega), List.drop_eq_nil_of_le (by omega), List.drop_eq_nil_of_le (by omega)]
    simp
def nao : List Str := ["not", "and", "or"]
def ibl : List Str := ["is", "below", "like"]
theorem in_nao (w : Str) : inD (.str w) [D.str (Str.ofString "not"), D.str (Str.ofString "and"), D.str (Str.ofString "or")] = decide (w ∈ nao) := inD_strs w nao
theorem in_ibl (w : Str) : inD (.str w) [D.str (Str.ofString "is"), D.str (Str.ofString "below"), D.str (Str.ofString "like")] = decide (w ∈ ibl) := inD_strs w ibl
theorem form_nao {cs : List (Str × Str)} {rc : D → Bool} {w : Str} (h : w ∈ nao) (ps : List D) : formB cs rc w ps = (decide ((ps.length : Int) = if (w == Str.ofString "not") = true then 1 else 2) && ps.all rc) := by
  simp only [nao, List.mem_cons, List.not_mem_nil, or_false] at h
  rcases h with rfl | rfl | rfl
  · unfold formB
    rw [if_pos (by decide), if_pos (by decide)]
    rcases ps with _ | ⟨p, _ | ⟨q, ps⟩⟩
    · rfl
    · simp
    · have : ¬ (((p :: q :: ps).length : Nat) : Int) = 1 := by simp; omega
      rw [decide_eq_false this]
      rfl
  · unfold formB
    rw [if_neg (by decide), if_neg (by decide)]
    rcases ps with _ | ⟨p, _ | ⟨q, _ | ⟨r, ps⟩⟩⟩
    · rfl
    · rfl
    · dsimp only
      rw [if_pos (by decide)]
      simp
    · have : ¬ (((p :: q :: r :: ps).length : Nat) : Int) = 2 := by simp; omega
      rw [decide_eq_false this]
      rfl
  · unfold formB
    rw [if_neg (by decide), if_neg (by decide)]
    rcases ps with _ | ⟨p, _ | ⟨q, _ | ⟨r, ps⟩⟩⟩
    · rfl
    · rfl
    · dsimp only
      rw [if_pos (by decide)]
      simp
    · have : ¬ (((p :: q :: r :: ps).length : Nat) : Int) = 2 := by simp; omega
      rw [decide_eq_false this]
      rfl
theorem form_not {cs : List (Str × Str)} {rc : D → Bool} {w : Str} (h : w ∉ nao) (ps : List D) (h2 : w ∉ ibl ∨ ps.length ≠ 2) : formB cs rc w ps = false := by
  simp only [nao, List.mem_cons, List.not_mem_nil, or_false, not_or] at h
  obtain ⟨n1, n2, n3⟩ := h
  unfold formB
  have e1 : (w == "not") = false := beq_eq_false_iff_ne.mpr n1
  have e2 : (w == "and") = false := beq_eq_false_iff_ne.mpr n2
  have e3 : (w == "or") = false := beq_eq_false_iff_ne.mpr n3
  rw [e1, if_neg (by simp)]
  rcases ps with _ | ⟨p, _ | ⟨q, _ | ⟨r, ps⟩⟩⟩
  · rfl
  · rfl
  · rcases h2 with h2 | h2
    · simp only [ibl, List.mem_cons, List.not_mem_nil, or_false, not_or] at h2
      obtain ⟨m1, m2, m3⟩ := h2
      dsimp only
      rw [e2, e3, beq_eq_false_iff_ne.mpr m1, beq_eq_false_iff_ne.mpr m2, beq_eq_false_iff_ne.mpr m3]
      rfl
    · simp at h2
  · rfl
theorem form_ibl {cs : List (Str × Str)} {rc : D → Bool} {w : Str} (h : w ∈ ibl) (p q : D) : formB cs rc w [p, q] = if (w == Str.ofString "is") = true then isB cs p q else if (w == Str.ofString "like") = true then likeB cs p q else belowB cs p q := by
  simp only [ibl, List.mem_cons, List.not_mem_nil, or_false] at h
  rcases h with rfl | rfl | rfl
  · rfl
  · rfl
  · rfl
theorem form_nop {cs : List (Str × Str)} {rc : D → Bool} {w : Str} (h : w ∈ ibl) {p q : D} (hp : kindD cs p = .non) : formB cs rc w [p, q] = false := by
  rw [form_ibl h]
  unfold isB likeB belowB
  rw [hp]
  split
  · rfl
  · split <;> rfl
theorem lcheck_is {cs : Cols} (hcs : ColsOk cs 4) : ∀ (n : Nat) (d : D) (S : Sto), dep d < n → Fd d → Fp (f__law_is_check n) [.d (colsD cs), .d d] S fun r S' => r = .d (.bl (checkB (toT cs) n d)) ∧ S' = S
  | n + 1, d, S, hn, hd => by
    obtain ⟨k, hk⟩ := Fd.kd hd.dat
    unfold f__law_is_check
    rw [recF, fp_runF]
    simp! only [e__law_is_check_0, kd_D hk, isK_tup hk]
    cases d with
    | tup ds =>
      rw [if_neg (by simp [tupB])]
      simp! only
      rcases ds with _ | ⟨a, _ | ⟨p, ps⟩⟩
      · rw [if_pos (by simp)]
        rfl
      · rw [if_pos (by simp)]
        cases a with
        | str w =>
          have : checkB (toT cs) (n + 1) (.tup [.str w]) = false := by
            show formB (toT cs) (checkB (toT cs) n) w [] = false
            unfold formB
            split <;> rfl
          rw [this]
        | _ => rfl
      · rw [if_neg (by simp; omega)]
        obtain ⟨ka, hka⟩ := Fd.kd (hd.item (d := a) (by simp)).dat
        simp! only [kd_D hka, isK_str hka]
        cases a with
        | str w =>
          rw [if_neg (by simp [strB])]
          simp! only [e__law_is_check_1, colsD, wp_dictT (prs_cols cs), merge_cols hcs.nd]
          rw [show (some (1 : Int)) = some ((1 : Nat) : Int) from rfl, cutD_from]
          have hB : checkB (toT cs) (n + 1) (.tup (.str w :: p :: ps)) = formB (toT cs) (checkB (toT cs) n) w (p :: ps) := rfl
          rw [hB]
          simp! only [e__law_is_check_2, in_nao]
          by_cases hw : w ∈ nao
          · rw [if_pos (decide_eq_true hw), form_nao hw]
            rw [show List.drop 1 (D.str w :: p :: ps) = p :: ps from rfl]
            refine ⟨.int (if (w == Str.ofString "not") = true then 1 else 2), by split <;> rfl, ?_⟩
            generalize (if (w == Str.ofString "not") = true then (1 : Int) else 2) = m
            generalize hR : (decide ((((p :: ps).length : Nat) : Int) = m) && (p :: ps).all (checkB (toT cs) n)) = R
            obtain ⟨L, hL⟩ : ∃ L, p :: ps = L := ⟨_, rfl⟩
            rw [hL] at hn hd hR ⊢
            simp! only
            by_cases hm : ((L.length : Nat) : Int) = m
            · rw [decide_eq_true hm, Bool.true_and] at hR
              rw [if_pos (by simpa using hm)]
              refine wp_compL_fm (fun _ => true) (fun d => .bl (checkB (toT cs) n d)) (fun _ => wat_nil _ _) ?_ ?_
              · intro x hx
                refine ⟨_, gt_name.mpr ⟨by simp, rfl⟩, ?_⟩
                simp! only
                have ih := lcheck_is hcs n x S (dep_item hn (List.mem_cons_of_mem _ hx)) (hd.item (List.mem_cons_of_mem _ hx))
                unfold colsD f__law_is_check at ih
                refine ih.mono ?_
                rintro r S2 ⟨rfl, rfl⟩
                simp! only
              · rw [List.filter_eq_self.mpr (fun _ _ => rfl)]
                refine ⟨_, blsOf_map (checkB (toT cs) n) L, ?_⟩
                rw [List.all_map, ← hR]
                exact ⟨rfl, rfl⟩
            · rw [decide_eq_false hm, Bool.false_and] at hR
              rw [if_neg (by simpa using hm), ← hR]
          · rw [if_neg (by simpa using hw)]
            simp! only [e__law_is_check_3, in_ibl]
            rw [show List.drop 1 (D.str w :: p :: ps) = p :: ps from rfl]
            by_cases hw2 : w ∈ ibl
            case neg =>
              rw [if_pos (by simpa using hw2), form_not hw _ (.inl hw2)]
              try exact ⟨rfl, rfl⟩
              try rfl
            rw [if_neg (by simpa using hw2)]
            rcases ps with _ | ⟨q, _ | ⟨z, ps⟩⟩
            · rw [if_pos (by simp), form_not hw _ (.inr (by simp))]
              try exact ⟨rfl, rfl⟩
              try rfl
            · rw [if_neg (by simp)]
              have hfp : Fd p := hd.item (by simp)
              have hfq : Fd q := hd.item (by simp)
              obtain ⟨kp, hkp⟩ := Fd.kd hfp.dat
              refine ⟨p, rfl, kp, kd_D hkp, ?_⟩
              rw [isK_str hkp]
              cases p with
              | str x =>
                rw [if_neg (by simp [strB])]
                refine ⟨_, rfl, _, rfl, ?_⟩
                rw [val_cols]
                have hkd := kindD_T cs x
                cases hki : kindIn cs x with
                | none =>
                  rw [hki] at hkd
                  rw [if_pos (by rfl), form_nop hw2 hkd]
                  try exact ⟨rfl, rfl⟩
                  try rfl
                | some b =>
                  rw [hki] at hkd
                  dsimp only at hkd
                  rw [if_neg (by simp)]
                  simp! only [e__law_is_check_4]
                  refine ⟨.str (kindS b), by rw [val_cols, hki]; rfl, ?_⟩
                  obtain ⟨kq, hkq⟩ := Fd.kd hfq.dat
                  simp! only [e__law_is_check_5]
                  rw [form_ibl hw2]
                  by_cases hl : (w == Str.ofString "like") = true
                  · have hni : (w == Str.ofString "is") = false := by
                      rw [beq_iff_eq] at hl
                      rw [hl]
                      decide
                    rw [if_pos hl, hni, if_neg (by simp), if_pos hl]
                    simp! only [kd_D hkq, isK_str hkq]
                    cases q with
                    | str y =>
                      rw [if_pos (by rfl)]
                      simp! only [mGet1]
                      refine ⟨_, rfl, ?_⟩
                      have hkq2 := kindD_T cs y
                      rw [val_cols]
                      unfold likeB
                      rw [hkd, hkq2]
                      cases kindIn cs y with
                      | none =>
                        show Wp (gEq false (.d .non) (.d (.str (kindS b)))) _ _ _
                        refine wp_eq_ns.mpr ?_
                        simp! only
                        try rfl
                      | some b2 =>
                        show Wp (gEq false (.d (.str (kindS b2))) (.d (.str (kindS b)))) _ _ _
                        simp! only
                        cases b <;> cases b2 <;> first | rfl | exact ⟨rfl, rfl⟩
                    | _ =>
                      rw [if_neg (by simp [strB])]
                      unfold likeB
                      rw [hkd]
                      rfl
                  · rw [if_neg hl, if_neg hl]
                    simp! only [e__law_is_check_6]
                    refine (lfits_ok b (hfq.pl (by omega))).mono ?_
                    rintro r S2 ⟨rfl, rfl⟩
                    simp! only
                    have eI : isB (toT cs) (.str x) q = fitB (kindS b) q := by unfold isB; rw [hkd]
                    have eB : belowB (toT cs) (.str x) q = (b && numB q) := by unfold belowB; rw [hkd]; exact congrArg (· && numB q) (kind_num b)
                    have eK : (kindS b == Str.ofString "number") = b := kind_num b
                    rw [eI, eB, eK]
                    by_cases his : (w == Str.ofString "is") = true
                    · rw [if_pos his, if_pos his]
                      cases fitB (kindS b) q <;> rfl
                    · rw [if_neg his, if_neg his]
                      cases b with
                      | false =>
                        simp
                      | true =>
                        rw [if_pos rfl, Bool.true_and]
                        have ef : fitB (kindS true) q = (isNon q || numB q) := by
                          have e : (kindS true == "number") = true := kind_num true
                          cases q <;> first | rfl | (unfold fitB; rw [e]; simp [isNon])
                        rw [ef]
                        cases q <;> simp [isNon, numB]
              | _ =>
                rw [if_pos (by simp [strB]), form_nop hw2 rfl]
                try exact ⟨rfl, rfl⟩
                try rfl
            · rw [if_pos (by simp; omega), form_not hw _ (.inr (by simp))]
              try exact ⟨rfl, rfl⟩
              try rfl
        | _ => rw [if_pos (by simp [strB])]; rfl
    | _ => rw [if_pos (by simp [tupB])]; rfl
end G

set_option Elab.async false
set_option linter.all false
set_option maxRecDepth 1000000
set_option maxHeartbeats 1000000
/- ev9 -/
namespace G
variable [Wld]
open PySem PySem.Spec PyProof.Rows L2
local macro_rules
  | `(tactic| simp! only) => `(tactic| simp only [ev0, ev1, ev2, ev3, ev4, ev5, ev6, ev7, ev8, ev9, wp_ix_refC, wp_setItE, List.map_cons, List.map_nil, List.replicate, List.cons_append, List.nil_append, List.length_cons, List.length_nil, List.set_cons_succ, List.set_cons_zero, List.getElem?_cons_zero, List.getElem?_cons_succ, Option.map_some, Option.bind_some, List.all_cons, List.all_nil, List.isEmpty_nil, List.isEmpty_cons, eq_self, if_true, if_false, ite_true, ite_false, Option.some.injEq, exists_eq_left', exists_eq_left, Nat.reduceAdd, Nat.reduceLT, Nat.reduceLeDiff, Int.reduceLE, Int.reduceLT, Int.reduceNeg, Int.reducePow, Int.reduceToNat])
  | `(tactic| simp! only [$xs,*]) => `(tactic| simp only [ev0, ev1, ev2, ev3, ev4, ev5, ev6, ev7, ev8, ev9, wp_ix_refC, wp_setItE, List.map_cons, List.map_nil, List.replicate, List.cons_append, List.nil_append, List.length_cons, List.length_nil, List.set_cons_succ, List.set_cons_zero, List.getElem?_cons_zero, List.getElem?_cons_succ, Option.map_some, Option.bind_some, List.all_cons, List.all_nil, List.isEmpty_nil, List.isEmpty_cons, eq_self, if_true, if_false, ite_true, ite_false, Option.some.injEq, exists_eq_left', exists_eq_left, Nat.reduceAdd, Nat.reduceLT, Nat.reduceLeDiff, Int.reduceLE, Int.reduceLT, Int.reduceNeg, Int.reducePow, Int.reduceToNat, $xs,*])
/-! ### names in order by their places -/
def ixS (x : Str) : List Str → Nat
  | [] => 0
  | y :: r => if y = x then 0 else ixS x r + 1
theorem ixS_at {x : Str} : ∀ {nm : List Str}, x ∈ nm → nm[ixS x nm]? = some x
  | y :: r, h => by
    unfold ixS
    by_cases e : y = x
    · rw [if_pos e, e]; rfl
    · rw [if_neg e]
      rcases List.mem_cons.mp h with h | h
      · exact absurd h.symm e
      · rw [List.getElem?_cons_succ]; exact ixS_at h
theorem ixS_sorted : ∀ {nm : List Str}, nm.Nodup → nm.Pairwise fun a b => ixS a nm < ixS b nm
  | [], _ => List.Pairwise.nil
  | y :: r, h => by
    rw [List.nodup_cons] at h
    have hne : ∀ b ∈ r, y ≠ b := fun b hb e => h.1 (e ▸ hb)
    refine List.pairwise_cons.mpr ⟨fun b hb => ?_, ?_⟩
    · unfold ixS
      rw [if_pos rfl, if_neg (hne b hb)]
      omega
    · refine List.Pairwise.imp_of_mem (fun {a b} ha hb hab => ?_) (ixS_sorted h.2)
      unfold ixS
      rw [if_neg (hne a ha), if_neg (hne b hb)]
      omega
theorem map_inj_on {f : Str → Int} : ∀ {xs ys : List Str}, (∀ a ∈ xs, ∀ b ∈ ys, f a = f b → a = b) → xs.map f = ys.map f → xs = ys
  | [], [], _, _ => rfl
  | [], _ :: _, _, e => by simp at e
  | _ :: _, [], _, e => by simp at e
  | x :: xs, y :: ys, h, e => by
    rw [List.map_cons, List.map_cons, List.cons.injEq] at e
    rw [h x (by simp) y (by simp) e.1, map_inj_on (fun a ha b hb => h a (List.mem_cons_of_mem _ ha) b (List.mem_cons_of_mem _ hb)) e.2]
theorem ordered_iff {nm xs : List Str} (hnd : nm.Nodup) (hsub : ∀ x ∈ xs, x ∈ nm) : (xs.map fun x => ((ixS x nm : Nat) : Int)) = sdI (xs.map fun x => ((ixS x nm : Nat) : Int)) ↔ xs = nm.filter fun x => decide (x ∈ xs) := by
  generalize hys : (nm.filter fun x => decide (x ∈ xs)) = ys
  have hy : ∀ x, x ∈ ys ↔ x ∈ xs := fun x => by
    rw [← hys, List.mem_filter, decide_eq_true_eq]
    exact ⟨fun h => h.2, fun h => ⟨hsub x h, h⟩⟩
  have hyn : ∀ x ∈ ys, x ∈ nm := fun x h => hsub x ((hy x).mp h)
  have hsy : (ys.map fun x => ((ixS x nm : Nat) : Int)).Pairwise (· < ·) := by
    refine List.Pairwise.map _ (R := fun a b => ixS a nm < ixS b nm) (fun a b h => by omega) ?_
    rw [← hys]
    exact (ixS_sorted hnd).filter _
  have inj : ∀ a ∈ nm, ∀ b ∈ nm, ((ixS a nm : Nat) : Int) = ((ixS b nm : Nat) : Int) → a = b := fun a ha b hb e => by
    have e' : ixS a nm = ixS b nm := by omega
    have h1 := ixS_at ha
    rw [e', ixS_at hb] at h1
    exact (Option.some.inj h1).symm
  constructor
  · intro h
    have hsx : (xs.map fun x => ((ixS x nm : Nat) : Int)).Pairwise (· < ·) := by rw [h]; exact sdI_sorted
    have he := sorted_same hsx hsy fun k => by
      simp only [List.mem_map]
      constructor
      · rintro ⟨x, hx, rfl⟩; exact ⟨x, (hy x).mpr hx, rfl⟩
      · rintro ⟨x, hx, rfl⟩; exact ⟨x, (hy x).mp hx, rfl⟩
    exact map_inj_on (fun a ha b hb => inj a (hsub a ha) b (hyn b hb)) he
  · intro h
    have hsx : (xs.map fun x => ((ixS x nm : Nat) : Int)).Pairwise (· < ·) := by rw [h]; exact hsy
    exact sorted_same hsx sdI_sorted fun k => by rw [sdI_mem]
theorem idxD_str {x : Str} : ∀ {nm : List Str}, x ∈ nm → idxD (.str x) (nm.map D.str) = some (ixS x nm)
  | y :: r, h => by
    unfold ixS
    by_cases e : y = x
    · subst e
      rw [if_pos rfl]
      unfold idxD
      rw [List.map_cons, List.findIdx?_cons]
      show (if (y == y) = true then some 0 else _) = _
      rw [if_pos (by simp)]
    · rw [if_neg e]
      rcases List.mem_cons.mp h with h | h
      · exact absurd h.symm e
      · have ih := idxD_str h
        have e2 : (y == x) = false := beq_eq_false_iff_ne.mpr e
        unfold idxD at ih ⊢
        rw [List.map_cons, List.findIdx?_cons, ih]
        show (if (y == x) = true then some 0 else _) = _
        rw [e2, if_neg (by simp)]
        rfl
def strIn (nm : List Str) (d : D) : Bool := match d with
  | .str x => decide (x ∈ nm)
  | _ => false
def strInD (nm : List Str) (d : D) : D := .bl (strIn nm d)
def spotD (nm : List Str) (d : D) : D := match d with
  | .str x => .int (ixS x nm : Nat)
  | d => d
theorem all_in {nm : List Str} : ∀ {ds : List D}, ds.all (strIn nm) = true → ∃ xs : List Str, ds = xs.map D.str ∧ ∀ x ∈ xs, x ∈ nm
  | [], _ => ⟨[], rfl, by simp⟩
  | d :: ds, h => by
    simp only [List.all_cons, Bool.and_eq_true] at h
    obtain ⟨xs, rfl, h2⟩ := all_in h.2
    cases d with
    | str x => exact ⟨x :: xs, rfl, fun y hy => by
        rcases List.mem_cons.mp hy with rfl | hy
        · exact of_decide_eq_true h.1
        · exact h2 y hy⟩
    | _ => exact absurd h.1 (by simp [strIn])
theorem names_no {cs : Cols} {ds : List D} (h : ds.all (strIn (cs.map (·.1))) = false) : namesB cs (.tup ds) = false := by
  unfold namesB
  dsimp only
  cases hs : strsOf ds with
  | none => rfl
  | some xs =>
    refine decide_eq_false fun e => ?_
    have hds : ds = xs.map D.str := by
      clear h e
      induction ds generalizing xs with
      | nil => cases hs; rfl
      | cons d ds ih =>
        cases d <;> simp only [strsOf, reduceCtorEq] at hs
        obtain ⟨ys, h1, rfl⟩ := Option.map_eq_some_iff.mp hs
        rw [ih _ h1]
        rfl
    rw [hds, List.all_map] at h
    have : xs.all (strIn (cs.map (·.1)) ∘ D.str) = true := List.all_eq_true.mpr fun x hx => by
      have : x ∈ (cs.map (·.1)).filter fun x => decide (x ∈ xs) := by rw [← e]; exact hx
      exact decide_eq_true (List.mem_filter.mp this).1
    rw [this] at h
    cases h
theorem lis_right_ok {S : Sto} {ts : Lay} (g : GoodLay ts) {tb th : D} (hb : Fd tb) (hd : Fd th) (hz : ∀ c ds, th = .tup [c, .tup ds] → ds.length ≤ 60) : Fp f__law_is_right [.d (layD ts), .d tb, .d th] S fun r S' => r = .d (.bl (rightB ts tb th)) ∧ S' = S := by
  obtain ⟨k, hk⟩ := Fd.kd hd.dat
  obtain ⟨kb, hkb⟩ := Fd.kd hb.dat
  unfold f__law_is_right
  rw [fp_runF]
  simp! only [e__law_is_right_0, kd_D hkb, isK_str hkb, layD, wp_dictT (prs_lay ts), merge_lay g.nd]
  cases tb with
  | str x =>
    rw [if_neg (by simp [strB])]
    simp! only [wp_dictT (prs_lay ts), merge_lay g.nd]
    refine ⟨_, rfl, ?_⟩
    rw [val_lay]
    unfold rightB
    cases hc : colsIn ts (.str x) with
    | none =>
      rw [if_pos (by rfl)]
      try rfl
    | some cs =>
      have hcs := colsIn_ok g hc
      have hval : valD (layK ts) (.inr x) = some (colsD cs) := by rw [val_lay, hc]; rfl
      rw [if_neg (by simp)]
      simp! only [e__law_is_right_1]
      by_cases hn : isNon th = true
      · rw [if_pos hn]
        cases th <;> simp [isNon] at hn
        rfl
      rw [if_neg hn]
      simp! only [e__law_is_right_2, kd_D hk, isK_tup hk]
      cases th with
      | tup ds =>
        rw [if_neg (by simp [tupB])]
        simp! only
        rcases ds with _ | ⟨c, _ | ⟨nd, _ | ⟨z, ds⟩⟩⟩
        · rw [if_pos (by simp)]
          rfl
        · rw [if_pos (by simp)]
          rfl
        · rw [if_neg (by simp)]
          have hfc : Fd c := hd.item (by simp)
          have hfn : Fd nd := hd.item (by simp)
          obtain ⟨kn, hkn⟩ := Fd.kd hfn.dat
          refine ⟨nd, rfl, kn, kd_D hkn, ?_⟩
          rw [isK_tup hkn]
          have hB : thingB cs (.tup [c, nd]) = ((isNon c || checkB (toT cs) 60 c) && namesB cs nd) := rfl
          rw [hB]
          cases nd with
          | tup ds =>
            have hlen := hz c ds rfl
            rw [if_neg (by simp [tupB])]
            simp! only [e__law_is_right_3, wp_dictT (prs_lay ts), merge_lay g.nd]
            refine ⟨colsD cs, hval, ?_⟩
            simp! only [e__law_is_right_4, colsD]
            generalize hnm : cs.map (·.1) = nm
            have hcols : ((cs.map colD).filter fun _ => true).map colNm = nm.map D.str := by
              rw [List.filter_eq_self.mpr (fun _ _ => rfl), List.map_map, ← hnm, List.map_map]
              rfl
            refine wp_compL_fm (fun _ => true) colNm (fun _ => wat_nil _ _) ?_ ?_
            · intro d hd
              obtain ⟨c, hc, rfl⟩ := List.mem_map.mp hd
              refine ⟨_, gt_tup.mpr ⟨rfl, gt_cons.mpr ⟨_, gt_name.mpr ⟨by simp, rfl⟩, gt_cons.mpr ⟨_, gt_name.mpr ⟨by simp, rfl⟩, gt_nil.mpr rfl⟩⟩⟩, ?_⟩
              simp! only [colD]
              rfl
            · rw [hcols]
              refine ⟨by simp, ?_⟩
              simp! only [e__law_is_right_5]
              refine wp_compL_fm (fun _ => true) (strInD nm) (fun _ => wat_nil _ _) ?_ ?_
              · intro d hd
                obtain ⟨kd, hkd⟩ := Fd.kd (hfn.item hd).dat
                refine ⟨_, gt_name.mpr ⟨by simp, rfl⟩, ?_⟩
                simp! only [kd_D hkd, isK_str hkd]
                cases d with
                | str y =>
                  rw [if_pos (by rfl)]
                  exact ⟨rfl, by rw [inD_strs]; rfl⟩
                | _ =>
                  rw [if_neg (by simp [strB])]
                  rfl
              · rw [List.filter_eq_self.mpr (fun _ _ => rfl)]
                refine ⟨_, blsOf_map (strIn nm) ds, ?_⟩
                rw [List.all_map]
                have hid : (id ∘ strIn nm) = strIn nm := rfl
                rw [hid]
                by_cases ha : ds.all (strIn nm) = true
                · rw [if_neg (by rw [ha]; simp)]
                  obtain ⟨xs, rfl, hsub⟩ := all_in ha
                  simp! only [e__law_is_right_6]
                  have hsp : (((xs.map D.str).filter fun _ => true).map (spotD nm)) = (xs.map fun x => ((ixS x nm : Nat) : Int)).map D.int := by
                    rw [List.filter_eq_self.mpr (fun _ _ => rfl), List.map_map, List.map_map]
                    rfl
                  refine wp_compL_fm (fun _ => true) (spotD nm) (fun _ => wat_nil _ _) ?_ ?_
                  · intro d hd
                    obtain ⟨y, hy, rfl⟩ := List.mem_map.mp hd
                    refine ⟨_, gt_name.mpr ⟨by simp, rfl⟩, ?_⟩
                    simp! only
                    exact ⟨_, idxD_str (hsub y hy), rfl⟩
                  · rw [hsp]
                    generalize hspots : (xs.map fun x => ((ixS x nm : Nat) : Int)) = spots
                    refine ⟨by simp, ?_⟩
                    simp! only [e__law_is_right_7]
                    have hsl : spots.length ≤ 60 := by rw [← hspots]; simpa using hlen
                    refine wp_sortSet (ns := spots) rfl hsl ?_
                    refine wp_eqG.mpr ⟨.lst (spots.map D.int), rfl, .lst ((sdI spots).map D.int), rfl, datsI _, datsI _, rfl, _, deq_lst_map deq_int, ?_⟩
                    have hN : namesB cs (.tup (xs.map D.str)) = decide (spots = sdI spots) := by
                      unfold namesB
                      dsimp only
                      rw [strsOf_str]
                      dsimp only
                      rw [hnm, ← hspots]
                      have hnd : nm.Nodup := by rw [← hnm]; exact hcs.nd
                      rw [Bool.eq_iff_iff, decide_eq_true_eq, decide_eq_true_eq]
                      exact (ordered_iff hnd hsub).symm
                    rw [hN]
                    cases hdec : decide (spots = sdI spots) with
                    | false =>
                      refine ⟨_, rfl, ?_⟩
                      rw [if_neg (by simp)]
                      simp
                    | true =>
                      refine ⟨_, rfl, ?_⟩
                      rw [if_pos (by simp)]
                      simp! only
                      by_cases hcn : isNon c = true
                      · rw [if_pos hcn, hcn]
                        try exact ⟨rfl, rfl⟩
                        try rfl
                      · rw [if_neg hcn]
                        have hcn' : isNon c = false := by simpa using hcn
                        have ck := lcheck_is hcs 60 c S (by have := hfc.d; omega) hfc
                        unfold colsD at ck
                        refine ck.mono ?_
                        rintro r S2 ⟨rfl, rfl⟩
                        simp! only
                        rw [hcn']
                        simp
                · rw [if_pos (by simpa using ha)]
                  rw [names_no (by rw [hnm]; simpa using ha)]
                  simp
          | _ =>
            rw [if_pos (by simp [tupB])]
            simp [namesB]
        · rw [if_pos (by simp; omega)]
          rfl
      | _ => first | (exact absurd rfl hn) | (rw [if_pos (by simp [tupB])]; rfl)
  | _ =>
    rw [if_pos (by simp [strB])]
    rfl
end G

set_option Elab.async false
set_option linter.all false
set_option maxRecDepth 1000000
set_option maxHeartbeats 1000000
/- ev9 -/
namespace G
variable [Wld]
open PySem PySem.Spec PyProof.Rows L2
local macro_rules
  | `(tactic| simp! only) => `(tactic| simp only [ev0, ev1, ev2, ev3, ev4, ev5, ev6, ev7, ev8, ev9, wp_ix_refC, wp_setItE, List.map_cons, List.map_nil, List.replicate, List.cons_append, List.nil_append, List.length_cons, List.length_nil, List.set_cons_succ, List.set_cons_zero, List.getElem?_cons_zero, List.getElem?_cons_succ, Option.map_some, Option.bind_some, List.all_cons, List.all_nil, List.isEmpty_nil, List.isEmpty_cons, eq_self, if_true, if_false, ite_true, ite_false, Option.some.injEq, exists_eq_left', exists_eq_left, Nat.reduceAdd, Nat.reduceLT, Nat.reduceLeDiff, Int.reduceLE, Int.reduceLT, Int.reduceNeg, Int.reducePow, Int.reduceToNat])
  | `(tactic| simp! only [$xs,*]) => `(tactic| simp only [ev0, ev1, ev2, ev3, ev4, ev5, ev6, ev7, ev8, ev9, wp_ix_refC, wp_setItE, List.map_cons, List.map_nil, List.replicate, List.cons_append, List.nil_append, List.length_cons, List.length_nil, List.set_cons_succ, List.set_cons_zero, List.getElem?_cons_zero, List.getElem?_cons_succ, Option.map_some, Option.bind_some, List.all_cons, List.all_nil, List.isEmpty_nil, List.isEmpty_cons, eq_self, if_true, if_false, ite_true, ite_false, Option.some.injEq, exists_eq_left', exists_eq_left, Nat.reduceAdd, Nat.reduceLT, Nat.reduceLeDiff, Int.reduceLE, Int.reduceLT, Int.reduceNeg, Int.reducePow, Int.reduceToNat, $xs,*])
/-! ### odd things -/
def base14 : List D := [.non, .bl true, .bl false, .int 0, .str "", .str "k", .str "none", .tup [], .lst [], .dic [] [], .tup [.non], .tup [.non, .non], .tup [.str "is", .str "k", .non], .tup [.tup [], .tup []]]
def dzB (W k : Nat) (d : D) : Bool := lvB 1000000000 60 d && (decide (wt d ≤ W) && decide (dep d ≤ k))
theorem dz_of {W k : Nat} {d : D} (h : dzB W k d = true) : DZ W k d := by
  unfold dzB at h
  simp only [Bool.and_eq_true, decide_eq_true_eq] at h
  exact ⟨h.1, h.2.1, h.2.2⟩
theorem base_ok : ∀ d ∈ base14, dzB 300 2 d = true := by decide +kernel
theorem DZ.up {W k W' k' : Nat} {d : D} (h : DZ W k d) (h1 : W ≤ W') (h2 : k ≤ k') : DZ W' k' d := h.mono (Nat.le_refl _) (Nat.le_refl _) h1 h2
theorem dz_one {W k : Nat} {d : D} (h : DZ W k d) : DZ (W + 20) (k + 2) (.tup [d]) ∧ DZ (W + 20) (k + 2) (.lst [d]) ∧ DZ (W + 20) (k + 2) (.dic [.inr (Str.ofString "a")] [d]) ∧ DZ (W + 20) (k + 2) (.tup [d, .tup []]) := by
  have hw := h.w
  have hl := h.l
  have hd := h.d
  refine ⟨dt_tup.mpr ⟨by simp, fun x hx => ?_, by simp [wts]; omega⟩, dt_lst.mpr ⟨by simp, fun x hx => ?_, by simp [wts]; omega⟩, ⟨?_, ?_, ?_⟩, dt_tup.mpr ⟨by simp, fun x hx => ?_, by simp [wts, wt]; omega⟩⟩
  · rw [List.mem_singleton.mp hx]; exact h.up (by omega) (by omega)
  · rw [List.mem_singleton.mp hx]; exact h.up (by omega) (by omega)
  · show (([.inr (Str.ofString "a")] : List Key).all (keyOkB 1000000000) && decide (1 = 1) && (lvB 1000000000 60 d && true)) = true
    rw [hl]
    decide +kernel
  · have : (([.inr (Str.ofString "a")] : List Key).map fun k => keyW k + 1).sum ≤ 10 := by decide +kernel
    show (([.inr (Str.ofString "a")] : List Key).map fun k => keyW k + 1).sum + (wt d + 1 + 0) ≤ W + 20
    omega
  · show deps [d] + 1 ≤ k + 2
    have : deps [d] ≤ k := (deps_le (k := k)).mpr fun x hx => by rw [List.mem_singleton.mp hx]; exact hd
    omega
  · rcases List.mem_cons.mp hx with rfl | hx
    · exact h.up (by omega) (by omega)
    · rw [List.mem_singleton.mp hx]
      exact dt_tup.mpr ⟨by simp, by simp, by simp [wts]⟩
theorem odd_ok {n k : Nat} {S : Sto} (hS : Pt n k S) (hk : k ≤ 900000000) : Fp f__law_odd [.d (.ref n)] S fun r S' => ∃ d, r = .d d ∧ DZ 600 32 d ∧ Dr n (k + 17) S S' := by
  unfold f__law_odd
  rw [fp_runF]
  simp! only [e__law_odd_0, e__law_odd_1]
  refine (pick_ok (ds := base14) (.inl rfl) (by decide) (by decide) hS (by omega)).mono ?_
  rintro r S1 ⟨⟨d0, hd0, rfl⟩, dr1⟩
  have h0 := dz_of (base_ok d0 hd0)
  simp! only [e__law_odd_2]
  refine (pick_ok (ds := [.int 0, .int 0, .int 1, .int 15]) (.inl rfl) (by decide) (by decide) dr1.pt (by omega)).mono ?_
  rintro r S2 ⟨⟨d1, hd1, rfl⟩, dr2⟩
  obtain ⟨m, hm, rfl⟩ : ∃ m : Nat, m ≤ 15 ∧ d1 = .int (m : Int) := by
    simp only [List.mem_cons, List.not_mem_nil, or_false] at hd1
    rcases hd1 with rfl | rfl | rfl | rfl
    · exact ⟨0, by omega, rfl⟩
    · exact ⟨0, by omega, rfl⟩
    · exact ⟨1, by omega, rfl⟩
    · exact ⟨15, by omega, rfl⟩
  have dr := dr1.trans dr2
  simp! only
  refine ⟨⟨by omega, by omega⟩, ?_⟩
  generalize hb : (Sl.own (O.lst [D.non, D.bl true, D.bl false, D.int 0, D.str (Str.ofString ""), D.str (Str.ofString "k"), D.str (Str.ofString "none"), D.tup [], D.lst [], D.dic [] [], D.tup [D.non], D.tup [D.non, D.non], D.tup [D.str (Str.ofString "is"), D.str (Str.ofString "k"), D.non], D.tup [D.tup [], D.tup []]])) = sl
  rw [Int.toNat_natCast]
  refine wp_forL' (fun pre post e S' => ∃ x3 d, e = [some (.d (.ref n)), some sl, some (.d d), x3] ∧ DZ (300 + 20 * pre.length) (2 + 2 * pre.length) d ∧ Dr n (k + 2 + pre.length) S S') ⟨_, _, rfl, h0, dr⟩ ?_ ?_
  · rintro pre d post e S3 hp ⟨x3, d2, rfl, h2, dr3⟩
    obtain ⟨rfl, hl⟩ := rng_at hp
    refine ⟨_, gt_name.mpr ⟨by simp, rfl⟩, ?_⟩
    simp! only
    refine wp_mD1 ?_
    simp! only
    obtain ⟨o1, o2, o3, o4⟩ := dz_one h2
    trace_state
    refine (pick_ok (ds := [.tup [d2], .lst [d2], .dic [.inr (Str.ofString "a")] [d2], .tup [d2, .tup []]]) (.inl rfl) (by simp) (by simp) dr3.pt (by omega)).mono ?_
    rintro r S4 ⟨⟨d3, hd3, rfl⟩, dr4⟩
    have h3 : DZ (300 + 20 * pre.length + 20) (2 + 2 * pre.length + 2) d3 := by
      simp only [List.mem_cons, List.not_mem_nil, or_false] at hd3
      rcases hd3 with rfl | rfl | rfl | rfl
      · exact o1
      · exact o2
      · exact o3
      · exact o4
    simp! only
    refine ⟨_, _, rfl, h3.up (by simp; omega) (by simp; omega), ?_⟩
    have := dr3.trans dr4
    simpa [Nat.add_assoc] using this
  · rintro e S3 ⟨x3, d2, rfl, h2, dr3⟩
    have hl : (rngD 0 m).length = m := rngD_len m
    rw [hl] at h2 dr3
    simp! only [e__law_odd_3]
    exact ⟨_, rfl, h2.up (by omega) (by omega), dr3.mono (by omega)⟩
end G

set_option Elab.async false
set_option linter.all false
set_option maxRecDepth 1000000
set_option maxHeartbeats 1000000
/- ev9 -/
namespace G
variable [Wld]
open PySem PySem.Spec PyProof.Rows L2
local macro_rules
  | `(tactic| simp! only) => `(tactic| simp only [ev0, ev1, ev2, ev3, ev4, ev5, ev6, ev7, ev8, ev9, wp_ix_refC, wp_setItE, List.map_cons, List.map_nil, List.replicate, List.cons_append, List.nil_append, List.length_cons, List.length_nil, List.set_cons_succ, List.set_cons_zero, List.getElem?_cons_zero, List.getElem?_cons_succ, Option.map_some, Option.bind_some, List.all_cons, List.all_nil, List.isEmpty_nil, List.isEmpty_cons, eq_self, if_true, if_false, ite_true, ite_false, Option.some.injEq, exists_eq_left', exists_eq_left, Nat.reduceAdd, Nat.reduceLT, Nat.reduceLeDiff, Int.reduceLE, Int.reduceLT, Int.reduceNeg, Int.reducePow, Int.reduceToNat])
  | `(tactic| simp! only [$xs,*]) => `(tactic| simp only [ev0, ev1, ev2, ev3, ev4, ev5, ev6, ev7, ev8, ev9, wp_ix_refC, wp_setItE, List.map_cons, List.map_nil, List.replicate, List.cons_append, List.nil_append, List.length_cons, List.length_nil, List.set_cons_succ, List.set_cons_zero, List.getElem?_cons_zero, List.getElem?_cons_succ, Option.map_some, Option.bind_some, List.all_cons, List.all_nil, List.isEmpty_nil, List.isEmpty_cons, eq_self, if_true, if_false, ite_true, ite_false, Option.some.injEq, exists_eq_left', exists_eq_left, Nat.reduceAdd, Nat.reduceLT, Nat.reduceLeDiff, Int.reduceLE, Int.reduceLT, Int.reduceNeg, Int.reducePow, Int.reduceToNat, $xs,*])
theorem dz_lst {ds : List D} {w k n W : Nat} (hl : ds.length ≤ n) (hn : n ≤ 60) (h : ∀ d ∈ ds, DZ w k d) (hW : n * (w + 1) ≤ W) (hw : w ≤ W) : DZ W (k + 1) (.lst ds) ∧ DZ W (k + 1) (.tup ds) := by
  have h1 := ddT hl hn h hW hw
  exact ⟨dt_lst.mpr (dt_tup.mp h1), h1⟩
theorem cut_mem {ds : List D} {lo hi : Option Int} {d : D} (h : d ∈ cutD ds lo hi) : d ∈ ds := by
  unfold cutD at h
  exact List.mem_of_mem_drop (List.mem_of_mem_take h)
theorem cut_len (ds : List D) (lo hi : Option Int) : (cutD ds lo hi).length ≤ ds.length := by
  unfold cutD
  rw [List.length_take, List.length_drop]
  omega
theorem wp_gBack {ds : List D} {e : En} {S : Sto} {Q : R → En → Sto → Prop} : Wp (gBack (.d (.tup ds))) e S Q ↔ Q (.d (.tup ds.reverse)) e S := by
  constructor
  · rintro ⟨r, e', S', h, q⟩
    cases h
    exact q
  · intro q
    exact ⟨_, _, _, rfl, q⟩
theorem bent_pair {n k : Nat} {S : Sto} {cd : D} {ns : List D} (hlen : ns.length ≤ 4) (hnd : ∀ d ∈ ns, DZ 600 32 d) (hcd : DZ 1000 2 cd) (hS : Pt n k S) (hk : k ≤ 800000000) : Fp f__law_bent [.d (.ref n), .d (.tup [cd, .tup ns])] S fun r S' => ∃ d, r = .d d ∧ DZ 30000 40 d ∧ Dr n (k + 30) S S' := by
  unfold f__law_bent
  rw [fp_runF]
  simp! only [e__law_bent_0]
  rw [if_neg (by simp [isNon])]
  simp! only [e__law_bent_1, e__law_bent_2]
  refine (take_ok (m := (ns.length : Int) + 1) hS (by omega) (by omega) (by omega)).mono ?_
  rintro r S1 ⟨i, rfl, hi, dr1⟩
  simp! only
  refine (odd_ok dr1.pt (by omega)).mono ?_
  rintro r S2 ⟨od, rfl, hod, dr2⟩
  have dr := dr1.trans dr2
  simp! only [e__law_bent_3, wp_gBack]
  have c1 := cut_len ns none (some 1)
  have c2 := cut_len ns none (some (i : Int))
  have c3 := cut_len ns (some ((i : Int) + 1)) none
  have c4 := cut_len ns (some (i : Int)) none
  refine ⟨by omega, by omega, by omega, by rw [List.length_append]; simp; omega, ?_⟩
  have cm : ∀ lo hi, ∀ d ∈ cutD ns lo hi, DZ 600 32 d := fun lo hi d hd => hnd d (cut_mem hd)
  have dL : ∀ {ds : List D}, ds.length ≤ 12 → (∀ d ∈ ds, DZ 600 32 d) → DZ 9000 33 (.lst ds) ∧ DZ 9000 33 (.tup ds) := fun h1 h2 => dz_lst h1 (by omega) h2 (by omega) (by omega)
  obtain ⟨L1, hL1⟩ : ∃ L1, [D.tup ns.reverse, D.tup (ns ++ cutD ns none (some 1)), D.tup (cutD ns none (some (i : Int)) ++ cutD ns (some ((i : Int) + 1)) none), D.lst ns, D.tup (cutD ns none (some (i : Int)) ++ [od] ++ cutD ns (some (i : Int)) none)] = L1 := ⟨_, rfl⟩
  have p1 : ∀ d ∈ L1, DZ 9000 33 d := by
    rw [← hL1]
    intro d hd
    simp only [List.mem_cons, List.not_mem_nil, or_false] at hd
    rcases hd with rfl | rfl | rfl | rfl | rfl
    · exact (dL (by simp; omega) fun d hd => hnd d (by simpa using hd)).2
    · exact (dL (by simp; omega) fun d hd => (List.mem_append.mp hd).elim (hnd d) (cm _ _ d)).2
    · exact (dL (by simp; omega) fun d hd => (List.mem_append.mp hd).elim (cm _ _ d) (cm _ _ d)).2
    · exact (dL (by omega) hnd).1
    · refine (dL (by simp; omega) fun d hd => ?_).2
      rcases List.mem_append.mp hd with hd | hd
      · rcases List.mem_append.mp hd with hd | hd
        · exact cm _ _ d hd
        · rw [List.mem_singleton.mp hd]; exact hod
      · exact cm _ _ d hd
  have l1 : L1.length = 5 := by rw [← hL1]; rfl
  rw [hL1]
  simp! only [e__law_bent_4]
  have hnt : DZ 3000 34 (.tup ns) := (ddT (W := 3000) hlen (by omega) hnd (by omega) (by omega)).up (by omega) (by omega)
  have hodz : DZ 9000 34 od := hod.up (by omega) (by omega)
  have hcz : DZ 9000 34 cd := hcd.up (by omega) (by omega)
  have hnz : DZ 9000 34 (.tup ns) := hnt.up (by omega) (by omega)
  have tp : ∀ {ds : List D}, ds.length ≤ 3 → (∀ d ∈ ds, DZ 9000 34 d) → DZ 29000 35 (.lst ds) ∧ DZ 29000 35 (.tup ds) := fun h1 h2 => dz_lst h1 (by omega) h2 (by omega) (by omega)
  have z0 : DZ 9000 34 (.int 0) := dd_int (by omega) (by omega) (by omega)
  refine wp_compL_fm (fun _ => true) (fun d => .tup [cd, d]) (fun _ => by simp [wat, look]; exact fun p hp => by rw [List.mem_singleton.mp hp]; rfl) ?_ ?_
  · intro d hd
    refine ⟨_, gt_name.mpr ⟨by simp, rfl⟩, ?_⟩
    simp! only
  · rw [List.filter_eq_self.mpr (fun _ _ => rfl)]
    simp! only
    have q1 : ∀ d ∈ L1.map (fun d => D.tup [cd, d]), DZ 29000 35 d := fun d hd => by
      obtain ⟨y, hy, rfl⟩ := List.mem_map.mp hd
      refine (tp (by simp) fun z hz => ?_).2
      rcases List.mem_cons.mp hz with rfl | hz
      · exact hcz
      · rw [List.mem_singleton.mp hz]; exact (p1 y hy).up (by omega) (by omega)
    have q1l : (L1.map (fun d => D.tup [cd, d])).length = 5 := by rw [List.length_map, l1]
    generalize L1.map (fun d => D.tup [cd, d]) = L2 at q1 q1l ⊢
    refine ⟨by omega, ?_⟩
    have cp := cut_len [cd, D.tup ns] none (some 1)
    have q2 : ∀ d ∈ L2 ++ [D.tup [cd, D.tup ns, D.int 0], D.tup (cutD [cd, D.tup ns] none (some 1)), D.lst [cd, D.tup ns], D.tup [D.tup ns, cd]], DZ 29000 35 d := fun d hd => by
      rcases List.mem_append.mp hd with hd | hd
      · exact q1 d hd
      · simp only [List.mem_cons, List.not_mem_nil, or_false] at hd
        rcases hd with rfl | rfl | rfl | rfl
        · refine (tp (by simp) fun z hz => ?_).2
          simp only [List.mem_cons, List.not_mem_nil, or_false] at hz
          rcases hz with rfl | rfl | rfl
          · exact hcz
          · exact hnz
          · exact z0
        · refine (tp (by simp at cp; omega) fun z hz => ?_).2
          have hz := cut_mem hz
          simp only [List.mem_cons, List.not_mem_nil, or_false] at hz
          rcases hz with rfl | rfl
          · exact hcz
          · exact hnz
        · refine (tp (by simp) fun z hz => ?_).1
          simp only [List.mem_cons, List.not_mem_nil, or_false] at hz
          rcases hz with rfl | rfl
          · exact hcz
          · exact hnz
        · refine (tp (by simp) fun z hz => ?_).2
          simp only [List.mem_cons, List.not_mem_nil, or_false] at hz
          rcases hz with rfl | rfl
          · exact hnz
          · exact hcz
    have q2l : (L2 ++ [D.tup [cd, D.tup ns, D.int 0], D.tup (cutD [cd, D.tup ns] none (some 1)), D.lst [cd, D.tup ns], D.tup [D.tup ns, cd]]).length = 9 := by rw [List.length_append, q1l]; rfl
    generalize (L2 ++ [D.tup [cd, D.tup ns, D.int 0], D.tup (cutD [cd, D.tup ns] none (some 1)), D.lst [cd, D.tup ns], D.tup [D.tup ns, cd]]) = L3 at q2 q2l ⊢
    simp! only [e__law_bent_5]
    obtain ⟨L4, hL4⟩ : ∃ L4, [od, D.tup [D.str (Str.ofString "not"), cd], D.tup [D.str (Str.ofString "is"), D.str (Str.ofString "k"), od], D.tup [D.str (Str.ofString "below"), D.str (Str.ofString "k"), D.non], D.tup [D.str (Str.ofString "like"), D.str (Str.ofString "k"), D.str (Str.ofString "x")], D.tup [D.str (Str.ofString "is"), D.str (Str.ofString "x")]] = L4 := ⟨_, rfl⟩
    have tq : ∀ {ds : List D}, ds.length ≤ 3 → (∀ d ∈ ds, DZ 1000 32 d) → DZ 4000 33 (.tup ds) := fun h1 h2 => (dz_lst h1 (by omega) h2 (by omega) (by omega)).2
    have hcs : DZ 1000 32 cd := hcd.up (by omega) (by omega)
    have hos : DZ 1000 32 od := hod.up (by omega) (by omega)
    have ws : ∀ d ∈ ([.str (Str.ofString "not"), .str (Str.ofString "is"), .str (Str.ofString "k"), .str (Str.ofString "below"), .str (Str.ofString "like"), .str (Str.ofString "x"), .non] : List D), dzB 1000 32 d = true := by decide +kernel
    have w1 : ∀ {d : D}, d ∈ ([.str (Str.ofString "not"), .str (Str.ofString "is"), .str (Str.ofString "k"), .str (Str.ofString "below"), .str (Str.ofString "like"), .str (Str.ofString "x"), .non] : List D) → DZ 1000 32 d := fun h => dz_of (ws _ h)
    have p4 : ∀ d ∈ L4, DZ 9000 34 d := by
      rw [← hL4]
      intro d hd
      simp only [List.mem_cons, List.not_mem_nil, or_false] at hd
      rcases hd with rfl | rfl | rfl | rfl | rfl | rfl
      · exact hodz
      all_goals refine (tq (by simp) fun z hz => ?_).up (by omega) (by omega)
      · simp only [List.mem_cons, List.not_mem_nil, or_false] at hz
        rcases hz with rfl | rfl
        · exact w1 (by simp)
        · exact hcs
      · simp only [List.mem_cons, List.not_mem_nil, or_false] at hz
        rcases hz with rfl | rfl | rfl
        · exact w1 (by simp)
        · exact w1 (by simp)
        · exact hos
      · simp only [List.mem_cons, List.not_mem_nil, or_false] at hz
        rcases hz with rfl | rfl | rfl <;> exact w1 (by simp)
      · simp only [List.mem_cons, List.not_mem_nil, or_false] at hz
        rcases hz with rfl | rfl | rfl <;> exact w1 (by simp)
      · simp only [List.mem_cons, List.not_mem_nil, or_false] at hz
        rcases hz with rfl | rfl <;> exact w1 (by simp)
    have l4 : L4.length = 6 := by rw [← hL4]; rfl
    rw [hL4]
    simp! only [e__law_bent_6]
    refine wp_compL_fm (fun _ => true) (fun d => .tup [d, .tup ns]) (fun _ => by simp [wat, look]; exact fun p hp => by rw [List.mem_singleton.mp hp]; rfl) ?_ ?_
    · intro d hd
      refine ⟨_, gt_name.mpr ⟨by simp, rfl⟩, ?_⟩
      simp! only
    · rw [List.filter_eq_self.mpr (fun _ _ => rfl)]
      simp! only
      have q4 : ∀ d ∈ L4.map (fun d => D.tup [d, .tup ns]), DZ 29000 35 d := fun d hd => by
        obtain ⟨y, hy, rfl⟩ := List.mem_map.mp hd
        refine (tp (by simp) fun z hz => ?_).2
        rcases List.mem_cons.mp hz with rfl | hz
        · exact p4 _ hy
        · rw [List.mem_singleton.mp hz]; exact hnz
      have q4l : (L4.map (fun d => D.tup [d, .tup ns])).length = 6 := by rw [List.length_map, l4]
      generalize L4.map (fun d => D.tup [d, .tup ns]) = L5 at q4 q4l ⊢
      refine ⟨by omega, ?_⟩
      refine (pick_ok (ds := L3 ++ L5) (.inl rfl) (by rw [List.length_append]; omega) (by rw [List.length_append]; omega) dr.pt (by omega)).mono ?_
      rintro r S3 ⟨⟨d3, hd3, rfl⟩, dr3⟩
      have hz : DZ 29000 35 d3 := (List.mem_append.mp hd3).elim (q2 d3) (q4 d3)
      simp! only
      exact ⟨_, rfl, hz.up (by omega) (by omega), (dr.trans dr3).mono (by omega)⟩
theorem bent_ok {n k : Nat} {S : Sto} {cs : Cols} (h : ColsOk cs 4) {g : Rg} (hg : g.Ok cs) (hS : Pt n k S) (hk : k ≤ 800000000) : Fp f__law_bent [.d (.ref n), .d g.D] S fun r S' => ∃ d, r = .d d ∧ DZ 30000 40 d ∧ Dr n (k + 30) S S' := by
  cases g with
  | no =>
    show Fp f__law_bent [.d (.ref n), .d .non] S _
    unfold f__law_bent
    rw [fp_runF]
    simp! only [e__law_bent_0]
    rw [if_pos (by rfl)]
    refine (odd_ok hS (by omega)).mono ?_
    rintro r S1 ⟨d, rfl, hd, dr⟩
    simp! only
    exact ⟨d, rfl, hd.up (by omega) (by omega), dr.mono (by omega)⟩
  | sees c xs =>
    obtain ⟨hc, hx⟩ := hg
    refine bent_pair (cd := optD c) (ns := xs.map G.D.str) (by rw [List.length_map]; exact Nat.le_trans hx.1 h.hi) (fun d hd => ?_) ?_ hS hk
    · obtain ⟨y, hy, rfl⟩ := List.mem_map.mp hd
      obtain ⟨b, hb⟩ := hx.2 y hy
      exact (dd_nm (W := 70) (k := 0) (h.nm _ hb) (Nat.le_refl _)).up (by omega) (by omega)
    · cases c with
      | none => exact dt_non
      | some c => exact (hc c rfl).dd1 h
end G

set_option Elab.async false
set_option linter.all false
set_option maxRecDepth 1000000
set_option maxHeartbeats 1000000
/- ev9 -/
namespace G
variable [Wld]
open PySem PySem.Spec PyProof.Rows L2
local macro_rules
  | `(tactic| simp! only) => `(tactic| simp only [ev0, ev1, ev2, ev3, ev4, ev5, ev6, ev7, ev8, ev9, wp_ix_refC, wp_setItE, List.map_cons, List.map_nil, List.replicate, List.cons_append, List.nil_append, List.length_cons, List.length_nil, List.set_cons_succ, List.set_cons_zero, List.getElem?_cons_zero, List.getElem?_cons_succ, Option.map_some, Option.bind_some, List.all_cons, List.all_nil, List.isEmpty_nil, List.isEmpty_cons, eq_self, if_true, if_false, ite_true, ite_false, Option.some.injEq, exists_eq_left', exists_eq_left, Nat.reduceAdd, Nat.reduceLT, Nat.reduceLeDiff, Int.reduceLE, Int.reduceLT, Int.reduceNeg, Int.reducePow, Int.reduceToNat])
  | `(tactic| simp! only [$xs,*]) => `(tactic| simp only [ev0, ev1, ev2, ev3, ev4, ev5, ev6, ev7, ev8, ev9, wp_ix_refC, wp_setItE, List.map_cons, List.map_nil, List.replicate, List.cons_append, List.nil_append, List.length_cons, List.length_nil, List.set_cons_succ, List.set_cons_zero, List.getElem?_cons_zero, List.getElem?_cons_succ, Option.map_some, Option.bind_some, List.all_cons, List.all_nil, List.isEmpty_nil, List.isEmpty_cons, eq_self, if_true, if_false, ite_true, ite_false, Option.some.injEq, exists_eq_left', exists_eq_left, Nat.reduceAdd, Nat.reduceLT, Nat.reduceLeDiff, Int.reduceLE, Int.reduceLT, Int.reduceNeg, Int.reducePow, Int.reduceToNat, $xs,*])
theorem dz_fd {d : D} (h : DZ 30000 40 d) : Fd d := h.mono (by omega) (by omega) (by omega) (by omega)
theorem dz_len {c : D} {ds : List D} (h : DZ 30000 40 (.tup [c, .tup ds])) : ds.length ≤ 60 := by
  have h1 := (dt_tup (k := 39)).mp h
  exact ((dt_tup (k := 38)).mp (h1.2.1 (.tup ds) (by simp))).1
theorem cols_dz {cs : Cols} (h : ColsOk cs 4) : DZ 1000 2 (colsD cs) := by
  unfold colsD
  refine ddT (w := 150) (n := 4) (by simpa using h.hi) (by omega) (fun d hd => ?_) (by omega) (by omega)
  obtain ⟨c, hc, rfl⟩ := List.mem_map.mp hd
  unfold colD
  refine ddT (w := 70) (n := 2) (by simp) (by omega) (fun d hd => ?_) (by omega) (by omega)
  simp only [List.mem_cons, List.not_mem_nil, or_false] at hd
  rcases hd with rfl | rfl
  · exact dd_nm (h.nm c hc) (by omega)
  · cases c.2
    · exact dz_of (by decide +kernel)
    · exact dz_of (by decide +kernel)
theorem lay_dz {ts : Lay} (g : GoodLay ts) : DZ 9000 4 (layD ts) := by
  unfold layD
  refine ddT (w := 2100) (n := 3) (by simpa using g.len.2) (by omega) (fun d hd => ?_) (by omega) (by omega)
  obtain ⟨t, ht, rfl⟩ := List.mem_map.mp hd
  unfold tabD
  refine DZ.up (ddT (W := 2010) (w := 1000) (k := 2) (n := 2) (by simp) (by omega) (fun d hd => ?_) (by omega) (by omega)) (by omega) (by omega)
  simp only [List.mem_cons, List.not_mem_nil, or_false] at hd
  rcases hd with rfl | rfl
  · exact dd_nm (g.nm t ht) (by omega)
  · exact cols_dz (g.cl t ht)
theorem rg_dz {cs : Cols} (h : ColsOk cs 4) {gr : Rg} (hg : gr.Ok cs) : DZ 30000 40 gr.D := (hg.dd h (by omega)).up (by omega) (by omega)
theorem law_fp {A : FA} (hA : Dis A) (ns : List Int) (hz : ns.length ≤ 63) : Fp (f_law A) [.d (.lst (ns.map D.int))] [] fun r _ => r = .d (.bl true) := by
  unfold f_law
  rw [fp_runF]
  simp! only [e_law_0]
  have hkk : ∃ z : Nat, 1 + min2 4 ((List.map D.int ns).length : Nat) = (z : Int) ∧ z ≤ ns.length + 1 := by
    rw [List.length_map]
    unfold min2
    split
    · exact ⟨ns.length + 1, by omega, by omega⟩
    · exact ⟨5, by omega, by omega⟩
  obtain ⟨z, hzz, hz2⟩ := hkk
  rw [hzz]
  refine ⟨⟨by omega, by omega⟩, ?_⟩
  refine wp_forL' (fun pre post e S => ∃ x1 x2 x3 x4 x5 x6 x7 x8 x9 x10 x11 x12, e = [some (.d (.lst (ns.map D.int))), x1, x2, x3, x4, x5, x6, x7, x8, x9, x10, x11, x12]) ⟨_, _, _, _, _, _, _, _, _, _, _, _, rfl⟩ ?_ ?_
  · rintro pre d post e S hp ⟨x1, x2, x3, x4, x5, x6, x7, x8, x9, x10, x11, x12, rfl⟩
    obtain ⟨rfl, hl⟩ := rng_at hp
    have hl' : pre.length + post.length + 1 = z := hl
    refine ⟨_, gt_name.mpr ⟨by simp, rfl⟩, ?_⟩
    simp! only
    refine (hand_ok ns pre.length (by omega)).mono ?_
    rintro r S1 ⟨rfl, o, rfl, pt⟩
    simp! only
    refine (take_ok pt (by omega) (by omega) (by omega)).mono ?_
    rintro r S2 ⟨i, rfl, hi, dr2⟩
    simp! only
    rw [show (1 : Int) + (i : Int) = ((1 + i : Nat) : Int) by omega]
    refine (plan_ok (by omega) (by omega) dr2.pt (by omega)).mono ?_
    rintro r S3 ⟨ts, rfl, g, dr3⟩
    obtain ⟨t0, s0, _⟩ := (lay_dz g).shown (by omega) (by omega) (by omega)
    have hdat : datB (layD ts) = true := (lay_dz g).dat
    simp! only
    refine ⟨_, dat_d hdat, _, s0, ?_⟩
    refine wp_forL' (fun qre qost e S4 => Pt S.length (17 + 500 * qre.length) S4 ∧ ∃ x5 x6 x7 x8 x9 x10 x11 x12, e = [some (.d (.lst (ns.map D.int))), some (.d (.int (pre.length : Nat))), some (.d (.ref S.length)), some (.d (layD ts)), some (.d (.str t0)), x5, x6, x7, x8, x9, x10, x11, x12]) ⟨dr3.pt.mono (by omega), _, _, _, _, _, _, _, _, rfl⟩ ?_ ?_
    · rintro qre d qost e S4 hq ⟨p4, x5, x6, x7, x8, x9, x10, x11, x12, rfl⟩
      obtain ⟨rfl, hl2⟩ := rng_at hq
      have hl2' : qre.length + qost.length + 1 = 14 := hl2
      refine ⟨_, gt_name.mpr ⟨by simp, rfl⟩, ?_⟩
      simp! only
      refine (pick_ok (ds := ts.map tabD) (.inr (.inl rfl)) (by rw [List.length_map]; exact g.len.1) (by rw [List.length_map]; have := g.len.2; omega) p4 (by omega)).mono ?_
      rintro r S5 ⟨⟨dt, hdt, rfl⟩, dr5⟩
      obtain ⟨t, ht, rfl⟩ := List.mem_map.mp hdt
      refine ⟨_, rfl, _, rfl, ?_⟩
      have hcs := g.cl t ht
      simp! only
      refine (right_ok hcs dr5.pt (by omega)).mono ?_
      rintro r S6 ⟨⟨gr, rfl, hgr⟩, dr6⟩
      obtain ⟨tf, tr, htr⟩ : ∃ a l, ts = a :: l := by
        cases h : ts with
        | nil => have := g.len.1; rw [h] at this; simp at this
        | cons a l => exact ⟨a, l, rfl⟩
      have hlay : layD ts = .tup (tabD tf :: tr.map tabD) := by rw [htr]; rfl
      simp! only
      rw [show (R.d (layD ts) : R) = .d (.tup (.tup [.str tf.1, colsD tf.2] :: tr.map tabD)) from congrArg R.d hlay]
      simp! only
      refine (odd_ok dr6.pt (by omega)).mono ?_
      rintro r S7 ⟨od, rfl, hod, dr7⟩
      simp! only
      refine (pick_ok (ds := [.str t.1, .str t.1, .str tf.1, .str (Str.ofString "nobody"), od, colsD t.2]) (.inl rfl) (by simp) (by simp) dr7.pt (by omega)).mono ?_
      rintro r S8 ⟨⟨tb, htb, rfl⟩, dr8⟩
      have hnm : DZ 30000 40 (.str t.1) := dd_nm (g.nm t ht) (by omega)
      have hnf : DZ 30000 40 (.str tf.1) := dd_nm (g.nm tf (by rw [htr]; simp)) (by omega)
      have htz : DZ 30000 40 tb := by
        simp only [List.mem_cons, List.not_mem_nil, or_false] at htb
        rcases htb with rfl | rfl | rfl | rfl | rfl | rfl
        · exact hnm
        · exact hnm
        · exact hnf
        · exact dz_of (by decide +kernel)
        · exact hod.up (by omega) (by omega)
        · exact (cols_dz hcs).up (by omega) (by omega)
      simp! only
      refine (bent_ok hcs hgr dr8.pt (by omega)).mono ?_
      rintro r S9 ⟨b1, rfl, hb1, dr9⟩
      simp! only
      refine (bent_ok hcs hgr dr9.pt (by omega)).mono ?_
      rintro r S10 ⟨b2, rfl, hb2, dr10⟩
      simp! only
      have pt10 : Pt S.length (17 + 500 * (qre.length + 1)) S10 := dr10.pt.mono (by omega)
      have hths : ∀ d ∈ [gr.D, b1, b2], DZ 30000 40 d := fun d hd => by
        simp only [List.mem_cons, List.not_mem_nil, or_false] at hd
        rcases hd with rfl | rfl | rfl
        · exact rg_dz hcs hgr
        · exact hb1
        · exact hb2
      have htbs : ∀ d ∈ [D.str t.1, tb], DZ 30000 40 d := fun d hd => by
        simp only [List.mem_cons, List.not_mem_nil, or_false] at hd
        rcases hd with rfl | rfl
        · exact hnm
        · exact htz
      generalize gr.D = rd at hths ⊢
      refine wp_forL' (fun _ _ e S' => S10 = S' ∧ ∃ x8 x11 x12, e = [some (.d (.lst (ns.map D.int))), some (.d (.int (pre.length : Nat))), some (.d (.ref S.length)), some (.d (layD ts)), some (.d (.str t0)), some (.d (.int (qre.length : Nat))), some (.d rd), some (.d tb), x8, some (.d (.str t.1)), some (.d (colsD t.2)), x11, x12]) ⟨rfl, _, _, _, rfl⟩ ?_ ?_
      · rintro ure th ust e S11 hu ⟨rfl, x8, x11, x12, rfl⟩
        have hth := hths th (by rw [hu]; simp)
        refine ⟨_, gt_name.mpr ⟨by simp, rfl⟩, ?_⟩
        simp! only
        refine wp_forL' (fun _ _ e S' => S10 = S' ∧ ∃ x11 x12, e = [some (.d (.lst (ns.map D.int))), some (.d (.int (pre.length : Nat))), some (.d (.ref S.length)), some (.d (layD ts)), some (.d (.str t0)), some (.d (.int (qre.length : Nat))), some (.d rd), some (.d tb), some (.d th), some (.d (.str t.1)), some (.d (colsD t.2)), x11, x12]) ⟨rfl, _, _, rfl⟩ ?_ ?_
        · rintro vre wd vst e S12 hv ⟨rfl, x11, x12, rfl⟩
          have hwd := htbs wd (by rw [hv]; simp)
          refine ⟨_, gt_name.mpr ⟨by simp, rfl⟩, ?_⟩
          simp! only
          refine (is_right_ok hA g (dz_fd hwd) (dz_fd hth)).mono ?_
          rintro r S13 ⟨rfl, rfl⟩
          simp! only
          refine ⟨.bl, rfl, ?_⟩
          rw [if_neg (by simp [isK])]
          refine (lis_right_ok g (dz_fd hwd) (dz_fd hth) (fun c ds e => dz_len (e ▸ hth))).mono ?_
          rintro r S14 ⟨rfl, rfl⟩
          simp! only
          rw [if_neg (by simp)]
          exact ⟨_, _, rfl⟩
        · rintro e S12 ⟨rfl, x11, x12, rfl⟩
          exact ⟨rfl, _, _, _, rfl⟩
      · rintro e S11 ⟨rfl, x8, x11, x12, rfl⟩
        exact ⟨by simpa using pt10, _, _, _, _, _, _, _, _, rfl⟩
    · rintro e S4 ⟨p4, x5, x6, x7, x8, x9, x10, x11, x12, rfl⟩
      simp! only
      refine ⟨_, dat_d hdat, _, s0, ?_⟩
      rw [if_neg (by simp)]
      exact ⟨_, _, _, _, _, _, _, _, _, _, _, _, rfl⟩
  · rintro e S ⟨x1, x2, x3, x4, x5, x6, x7, x8, x9, x10, x11, x12, rfl⟩
    simp! only [e_law_1]
theorem law_true {A : FA} (hA : Dis A) (ns : List Int) (h : ns.length ≤ 63) (_ : ∀ z ∈ ns, Builtin.Int.intBits z ≤ 1048576) : ∃ S', f_law A [.d (.lst (ns.map D.int))] [] = some (.d (.bl true), S') := by
  obtain ⟨r, S', h1, rfl⟩ := law_fp (A := A) hA ns h
  exact ⟨S', h1⟩
end G

open PySem PySem.W PyProof.Rows
set_option maxHeartbeats 0 in
theorem PySem.Challenge.cw_standviews_k15_what_is_a_right_holds : PySem.Challenge.rw_standviews_k15_what_is_a_right.Holds := by
  w_on; o_law; k_head; (case hw => w_witness2)
  k_fill
  refine G.walk_G3 (l := PySem.Challenge.rw_standviews_k15_what_is_a_right) (n := 63) (k := 127) (x := "_law_script") rfl (by decide) rfl ⟨rfl, by decide, by decide⟩ (fun w h Y => PySem.W.kIn_of Y) ?F
  case F =>
    intro w mg fa h KX GN hmg
    obtain ⟨I0, hI0⟩ : ∃ i : G.Wld, w = i.w := ⟨{ w := w }, rfl⟩
    refine ⟨I0, ?_⟩
    refine' G.law_of (G.txt_mk KX GN hI0 ?a0 ?l0 ?c0 ?k0 ?a1 ?l1 ?c1 ?k1 ?a2 ?l2 ?c2 ?k2 ?a3 ?l3 ?c3 ?k3 ?a4 ?l4 ?c4 ?k4 ?a5 ?l5 ?c5 ?k5 ?a6 ?l6 ?c6 ?k6 ?a7 ?l7 ?c7 ?k7 ?a8 ?l8 ?c8 ?k8 ?a9 ?l9 ?c9 ?k9 ?a10 ?l10 ?c10 ?k10 ?a11 ?l11 ?c11 ?k11 ?a12 ?l12 ?c12 ?k12 ?a13 ?l13 ?c13 ?k13 ?a14 ?l14 ?c14 ?k14 ?a15 ?l15 ?c15 ?k15 ?a16 ?l16 ?c16 ?k16 ?a17 ?l17 ?c17 ?k17 ?a18 ?l18 ?c18 ?k18 ?a19 ?l19 ?c19 ?k19 ?a20 ?l20 ?c20 ?k20 ?a21 ?l21 ?c21 ?k21 ?a22 ?l22 ?c22 ?k22 ?a23 ?l23 ?c23 ?k23 ?a24 ?l24 ?c24 ?k24 ?a25 ?l25 ?c25 ?k25 ?a26 ?l26 ?c26 ?k26 ?g_LETTERS ?g_MOST_LETTERS ?g_NUMBER ?g_GREATEST ?ta_FORMS ?tl_FORMS ?tk_FORMS ?tv_FORMS ?ts_FORMS ?u_FORMS0 ?v_FORMS0 ?u_FORMS1 ?v_FORMS1 ?u_FORMS2 ?v_FORMS2 ?u_FORMS3 ?v_FORMS3 ?u_FORMS4 ?v_FORMS4 ?u_FORMS5 ?v_FORMS5 ?z_abs ?z_all ?z_bool ?z_dict ?z_int ?z_isinstance ?z_len ?z_list ?z_min ?z_range ?z_repr ?z_set ?z_sorted ?z_str ?z_tuple) hmg (G.law_true ?dis)
    (case a0 => k_is); (case l0 => k_is); (case c0 => k_is); (case k0 => k_is); (case a1 => k_is); (case l1 => k_is); (case c1 => k_is); (case k1 => k_is); (case a2 => k_is); (case l2 => k_is); (case c2 => k_is); (case k2 => k_is); (case a3 => k_is); (case l3 => k_is); (case c3 => k_is); (case k3 => k_is); (case a4 => k_is); (case l4 => k_is); (case c4 => k_is); (case k4 => k_is); (case a5 => k_is); (case l5 => k_is); (case c5 => k_is); (case k5 => k_is); (case a6 => k_is); (case l6 => k_is); (case c6 => k_is); (case k6 => k_is); (case a7 => k_is); (case l7 => k_is); (case c7 => k_is); (case k7 => k_is); (case a8 => k_is); (case l8 => k_is); (case c8 => k_is); (case k8 => k_is); (case a9 => k_is); (case l9 => k_is); (case c9 => k_is); (case k9 => k_is); (case a10 => k_is); (case l10 => k_is); (case c10 => k_is); (case k10 => k_is); (case a11 => k_is); (case l11 => k_is); (case c11 => k_is); (case k11 => k_is); (case a12 => k_is); (case l12 => k_is); (case c12 => k_is); (case k12 => k_is); (case a13 => k_is); (case l13 => k_is); (case c13 => k_is); (case k13 => k_is); (case a14 => k_is); (case l14 => k_is); (case c14 => k_is); (case k14 => k_is); (case a15 => k_is); (case l15 => k_is); (case c15 => k_is); (case k15 => k_is); (case a16 => k_is); (case l16 => k_is); (case c16 => k_is); (case k16 => k_is); (case a17 => k_is); (case l17 => k_is); (case c17 => k_is); (case k17 => k_is); (case a18 => k_is); (case l18 => k_is); (case c18 => k_is); (case k18 => k_is); (case a19 => k_is); (case l19 => k_is); (case c19 => k_is); (case k19 => k_is); (case a20 => k_is); (case l20 => k_is); (case c20 => k_is); (case k20 => k_is); (case a21 => k_is); (case l21 => k_is); (case c21 => k_is); (case k21 => k_is); (case a22 => k_is); (case l22 => k_is); (case c22 => k_is); (case k22 => k_is); (case a23 => k_is); (case l23 => k_is); (case c23 => k_is); (case k23 => k_is); (case a24 => k_is); (case l24 => k_is); (case c24 => k_is); (case k24 => k_is); (case a25 => k_is); (case l25 => k_is); (case c25 => k_is); (case k25 => k_is); (case a26 => k_is); (case l26 => k_is); (case c26 => k_is); (case k26 => k_is); (case g_LETTERS => k_is); (case g_MOST_LETTERS => k_is); (case g_NUMBER => k_is); (case g_GREATEST => k_is); (case ta_FORMS => k_is); (case tl_FORMS => k_is); (case tk_FORMS => rfl); (case tv_FORMS => rfl); (case ts_FORMS => rfl); (case u_FORMS0 => k_is); (case v_FORMS0 => rfl); (case u_FORMS1 => k_is); (case v_FORMS1 => rfl); (case u_FORMS2 => k_is); (case v_FORMS2 => rfl); (case u_FORMS3 => k_is); (case v_FORMS3 => rfl); (case u_FORMS4 => k_is); (case v_FORMS4 => rfl); (case u_FORMS5 => k_is); (case v_FORMS5 => rfl); (case z_abs => k_is); (case z_all => k_is); (case z_bool => k_is); (case z_dict => k_is); (case z_int => k_is); (case z_isinstance => k_is); (case z_len => k_is); (case z_list => k_is); (case z_min => k_is); (case z_range => k_is); (case z_repr => k_is); (case z_set => k_is); (case z_sorted => k_is); (case z_str => k_is); (case z_tuple => k_is); (case dis => constructor <;> decide)

