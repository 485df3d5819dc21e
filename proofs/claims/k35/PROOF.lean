import PyProof.Rows.All
import Wide.All
import OpenK.AllK
import Wide.FinOn
import PySem.Challenge.RW_standviews_k35_roads_with_room
import HandS.ForMost
import HandS.Flow
import KE.KDictKeyed
import HandS.ExcInit
import HandS.ExcValue
import HandS.Nested
import PyProof.ReprReads
import HandS.Ends
import HandS.Zip
import KE.KEqNest
import PyProof.NeKinds
import HandS.TupAny
import HandS.Style
import HandS.IsInst
import HandS.Strs
import HandS.TupLe
import PyProof.Rows.IntBool
import PyProof.TwoTypesSub
import PyProof.CollectIter
import PyProof.MakeMany
import HandS.TupMul
import HandS.More
import HandS.EndBits
import HandS.Set
import PyProof.ReprRoads
import HandS.RaiseMore
import HandS.HeadHook3
import PyProof.AutoSeq1
import PyProof.SeqRoads
import HandS.TryOnly
import KE.GoesNew
import KE.GoesMore
import HandS.List
import KE.SortKeyHeap
import HandS.SortKw
import HandS.DictComp
import HandS.DictSubView
import KE.KDictList
import HandS.Iter
import KE.GoesEnum
import PyProof.ReprLen
import HandS.Exc
import HandS.ExcField
import HandS.ExcIs
import HandS.ExcOwn
import HandS.ClsMeth
import KE.KExcIs
import PyProof.Rows.RuleU_int
import PyProof.FactsAll.bool_2
import KE.KNestM
import HandS.Defaults
import HandS.MakeKwOnly
import HandS.Spec
import HandS.WordsDict
import KE.KDictWalk
import HandS.Rev
import KE.DataMinMax
import KE.DataCmp
import PyProof.ListMulRoad
import PyProof.CollectStr
set_option Elab.async false
set_option linter.all false
set_option maxRecDepth 1000000
set_option maxHeartbeats 2000000
/-! G0: deep values, stores, the relation to the tracked heap; judgements by functions. -/
namespace G
/-- a lambda of the text: its qualified name, parameters, body, names, captured names -/
structure Lm where
  q : PySem.Str
  ps : PySem.Arguments
  b : PySem.Expr
  sc : PySem.Scope
  fr : List PySem.Str
/-- the world whose hashes the dicts keyed by rows bear; the makers' tables, the lambdas -/
class Wld where
  w : PySem.World
  tb : Nat → PySem.Addr := fun _ => 0
  tq : Nat → PySem.Str := fun _ => ""
  lm : Nat → Lm := fun _ => ⟨"", default, default, default, []⟩
  cls : Nat → PySem.Addr := fun _ => 0
variable [Wld]
open PySem PySem.Spec PyProof.Rows L2

/-- deep data; ref: an object of the store -/
inductive D where
  | non | bl (b : Bool) | int (i : Int) | str (x : Str) | tup (ds : List D) | lst (ds : List D) | dic (ks : List Key) (ds : List D) | ref (n : Nat) | fn (a : Addr) | exc (C : Addr) (ns : List Str) (ds : List D)
/-- an object that may change -/
inductive O where
  | lst (ds : List D) | dct (kvs : List (Key × D)) | kd (kvs : List (D × D)) | tab (n : Nat) | ins (c : Nat) (ns : List Str) (ds : List D) | kx (kvs : List (Key × D))
/-- what an expression gives -/
inductive R where
  | d (x : D) | new (o : O) | brw (o : O) | loc (i : Nat) | lm (i : Nat) (cs : List D)
/-- what a slot holds -/
inductive Sl where
  | d (x : D) | own (o : O) | brw (o : O) | lm (i : Nat) (cs : List D)
abbrev SV := L2.St
abbrev En := List (Option Sl)
abbrev Sto := List O
abbrev M (α : Type) := En → Sto → Option (α × En × Sto)

mutual
/-- a row as a key -/
def nk : D → Option NestedKey
  | .non => some .none
  | .int i => some (.num i)
  | .str x => some (.text x)
  | .tup ds => (nks ds).map .tup
  | _ => none
def nks : List D → Option (List NestedKey)
  | [] => some []
  | d :: ds => match nk d, nks ds with
    | some k, some ks => some (k :: ks)
    | _, _ => none
end
/-- a key that is a row -/
def ktup : NestedKey → Bool
  | .tup _ => true
  | _ => false
/-- a key that is a worth -/
def lfOf : NestedKey → Leaf
  | .num i => .num i
  | .text x => .text x
  | _ => .none
/-- one object, just as it stands -/
abbrev exa (a : Addr) (o : PySem.Obj) : HO := .ext fun h => h.get? a = some o
/-- the words of a lambda -/
abbrev lmF (qual : Str) (params : Arguments) (scope : Scope) (cl : List (Str × Addr)) (c : Addr) : NdefX.NF := ⟨"<lambda>", qual, params, [], scope, cl, c⟩
/-- the object at f is the lambda of F's words with the body b -/
def LmO (f : Addr) (F : NdefX.NF) (b : Expr) : HO :=
  .ext fun h => ∃ (od : Option Addr) (sl : Array (Option Value)) (pm tv : Value), h.get? f = some (⟨.type "function", od, .func (PySem.W.kla_fn F.name F.qual F.params b F.scope F.cl pm (.ref F.c) tv), sl⟩ : PySem.Obj)
/-- a lambda or a captured cell -/
def LmU (a : Addr) (u : HO) : Prop := (∃ F b, u = LmO a F b) ∨ ∃ o v, u = exa a o ∧ o.data = .cell v
/-- an object with such data, at a -/
theorem at_rep {a : Addr} {o : PySem.Obj} (hf : o.data ≠ .freed) : ({ objs := Array.replicate (a + 1) o } : Heap).get? a = some o := by
  obtain ⟨c, d, dt, sl⟩ := o
  cases dt <;> first | exact absurd rfl hf | simp [Heap.get?]
/-- an exception of the class C at a, with a dict of its own or none -/
def ExcS (H : Hp) (a C : Addr) : Prop := H a = some (ExO (.ref C) a) ∨ ∃ dd u, H a = some (exo a C (some dd)) ∧ H dd = some u ∧ ¬ LmU dd u
/-- no exception at a -/
def NS (a : Addr) (u : HO) : Prop := (∀ C, u ≠ ExO (.ref C) a) ∧ (∀ C d, u ≠ exo a C d) ∧ (∀ q, u ≠ LamX.CodeO a q) ∧ ¬ LmU a u
theorem lmu_of {a : Addr} {u : HO} (h : ∀ p, u ≠ .ext p) : ¬ LmU a u := by
  rintro (⟨F, b, z⟩ | ⟨o, v, z, _⟩)
  · exact h _ z
  · exact h _ z
theorem lmu_lst {a : Addr} {xs : List V} : ¬ LmU a (.lst xs) := lmu_of fun _ z => nomatch z
theorem lmu_dK {a : Addr} {xs : List (Key × V)} : ¬ LmU a (.dK xs) := lmu_of fun _ z => nomatch z
/-- what is no code object -/
theorem co_lst {a : Addr} {q : Str} {xs : List V} : HO.lst xs ≠ LamX.CodeO a q := fun z => by unfold LamX.CodeO at z; cases z
theorem co_dK {a : Addr} {q : Str} {xs : List (Key × V)} : HO.dK xs ≠ LamX.CodeO a q := fun z => by unfold LamX.CodeO at z; cases z
theorem co_ins {a C dx : Addr} {q : Str} {fs : List (Str × V)} : HO.ins C dx fs ≠ LamX.CodeO a q := fun z => by unfold LamX.CodeO at z; cases z
/-- a list that nobody writes: locked, or of the text's own -/
def LF (K : PySem.W.Frag) (H : Hp) (a : Addr) (xs : List V) : Prop := (∃ o, H a = some (.frz o (.lst xs))) ∨
  ∃ (o : PySem.Obj) (its : Array Value) (n : Nat), K.lookup a = some o ∧ o.cls = .type "list" ∧ o.dict = none ∧ o.data = .seq its n ∧ its.size ≤ sizeLine ∧ Vals xs its.toList
theorem LF.sq {K : PySem.W.Frag} {H : Hp} {a : Addr} {xs : List V} (h : LF K H a xs) : SqL K H a xs := by
  rcases h with ⟨o, h⟩ | h
  · exact .inl (.inr ⟨o, h⟩)
  · exact .inr h
/-- the dict of an exception, locked; none: no fields -/
def XdAt (H : Hp) : Option Addr → List (Str × V) → Prop
  | none, fs => fs = []
  | some dd, fs => ∃ od, H dd = some (.frz od (.xd fs))
section
variable (K : PySem.W.Frag) (H : Hp) (ι : List Addr)
mutual
inductive RD : V → D → Prop
  | non : RD .non .non
  | bl (b : Bool) : RD (.bl b) (.bl b)
  | int (i : Int) : RD (.int i) (.int i)
  | str (x : Str) : RD (.str x) (.str x)
  | tup {a : Addr} {xs : List V} {ds : List D} : SqT K H a xs → RDs xs ds → RD (.ref a) (.tup ds)
  | lst {a : Addr} {xs : List V} {ds : List D} : LF K H a xs → RDs xs ds → RD (.ref a) (.lst ds)
  | dic {a : Addr} {o : PySem.Obj} {xs : List V} {ks : List Key} {ds : List D} : H a = some (.frz o (.dK (ks.zip xs))) → ks.length = ds.length → RDs xs ds → RD (.ref a) (.dic ks ds)
  | ref {n : Nat} {a : Addr} : ι[n]? = some a → RD (.ref a) (.ref n)
  | fn (a : Addr) : RD (.ref a) (.fn a)
  | exc {a C : Addr} {oa : PySem.Obj} {d : Option Addr} {xs : List V} {ns : List Str} {ds : List D} : H a = some (.frz oa (.own a)) → Zc (.ref C) d oa → (∃ vs, oa.data = .fields vs) → XdAt H d (ns.zip xs) → ns.length = ds.length → RDs xs ds → RD (.ref a) (.exc C ns ds)
inductive RDs : List V → List D → Prop
  | nil : RDs [] []
  | cons {v : V} {vs : List V} {d : D} {ds : List D} : RD v d → RDs vs ds → RDs (v :: vs) (d :: ds)
end
def RK (ws : List (Key × V)) (kvs : List (Key × D)) : Prop := Paired (fun (p : Key × V) (q : Key × D) => p.1 = q.1 ∧ RD K H ι p.2 q.2) ws kvs
/-- what stands as a key -/
def KyR (k : NestedKey) (u : Value) (d : D) : Prop := (ktup k = true ∧ ∃ y, RelV y u ∧ RD K H ι y d) ∨ (ktup k = false ∧ Leaf.isOf (lfOf k) u = true)
/-- a dict keyed by rows or by worths, entry by entry -/
structure KdAt (a : Addr) (kvs : List (D × D)) (o : PySem.Obj) (es : Array DictEntry) (ep : Nat) (xs : List (NestedKey × Value × V × Value)) : Prop where
  at_ : H a = some (exa a o)
  ex : o.ExactDict
  dt : o.data = .dict es ep
  en : es.toList = xs.map fun x => ⟨x.1.hash Wld.w, x.2.1, x.2.2.2⟩
  nd : (xs.map (·.1)).Nodup
  sz : xs.length ≤ sizeLine
  sm : (a == sysModules) = false
  dp : ∀ x ∈ xs, x.1.depth ≤ 8
  md : ∃ b, ∀ x ∈ xs, ktup x.1 = b
  pr : Paired (fun (x : NestedKey × Value × V × Value) (q : D × D) => nk q.1 = some x.1 ∧ KyR K H ι x.1 x.2.1 q.1 ∧ RelV x.2.2.1 x.2.2.2 ∧ RD K H ι x.2.2.1 q.2) xs kvs
def RO (a : Addr) : O → Prop
  | .kd kvs => ∃ o es ep xs, KdAt K H ι a kvs o es ep xs
  | .tab n => a = Wld.tb n ∧ LamX.TabS H a (Wld.tq n)
  | .ins c ns ds => ∃ dx xs, H a = some (.ins (Wld.cls c) dx (ns.zip xs)) ∧ ns.length = ds.length ∧ RDs K H ι xs ds
  | .kx kvs => ∃ o ws, H a = some (.frz o (.frz o (.dK ws))) ∧ RK K H ι ws kvs
  | .lst ds => ∃ xs, H a = some (.lst xs) ∧ RDs K H ι xs ds
  | .dct kvs => ∃ ws, H a = some (.dK ws) ∧ RK K H ι ws kvs
/-- the lambda i that captured cs; Z: of the places where it and its cells stand -/
def LmR (v : V) (i : Nat) (cs : List D) (Z : Addr → Prop) : Prop := ∃ (f c : Addr) (cl : List (Str × Addr)), v = .ref f ∧ H f = some (LmO f (lmF (Wld.lm i).q (Wld.lm i).ps (Wld.lm i).sc cl c) (Wld.lm i).b) ∧ H c = some (LamX.CodeO c (Wld.lm i).q) ∧ Z f ∧
  (∀ y a, cl.lookup y = some a → Z a ∧ ∃ o v, H a = some (exa a o) ∧ o.data = .cell v) ∧ (∀ x y a, cl.lookup x = some a → cl.lookup y = some a → x = y) ∧ cs.length = (Wld.lm i).fr.length ∧
  ∀ (j : Nat) (y : Str) (d : D), (Wld.lm i).fr[j]? = some y → cs[j]? = some d → ∃ a o u v, cl.lookup y = some a ∧ H a = some (exa a o) ∧ o.data = .cell (some u) ∧ RelV v u ∧ RD K H ι v d
def RSl (v : V) : Sl → Prop
  | .lm i cs => LmR K H ι v i cs fun _ => True
  | .d x => RD K H ι v x
  | .own o => ∃ a, v = .ref a ∧ RO K H ι a o
  | .brw o => ∃ a, v = .ref a ∧ RO K H ι a o
end
def Sl.isObj : Sl → Prop
  | .d _ => False
  | .lm _ _ => False
  | _ => True
def Own (σ : SV) (e : En) (a : Addr) : Prop := ∃ (i : Nat) (o : O), e[i]? = some (some (.own o)) ∧ σ[i]? = some (some (.ref a))
def Obj (σ : SV) (e : En) (a : Addr) : Prop := ∃ (i : Nat) (s : Sl), e[i]? = some (some s) ∧ s.isObj ∧ σ[i]? = some (some (.ref a))
structure Rel (K : PySem.W.Frag) (H : Hp) (ι : List Addr) (σ : SV) (e : En) (S : Sto) : Prop where
  len : σ.length = e.length
  sl : ∀ (i : Nat) (s : Sl), e[i]? = some (some s) → ∃ v, σ[i]? = some (some v) ∧ RSl K H ι v s
  ilen : ι.length = S.length
  st : ∀ (n : Nat) (o : O) (a : Addr), S[n]? = some o → ι[n]? = some a → RO K H ι a o
  nd : ι.Nodup
  own : ∀ (i : Nat) (o : O) (a : Addr), e[i]? = some (some (.own o)) → σ[i]? = some (some (.ref a)) → a ∉ ι ∧ ∀ (j : Nat) (s : Sl) (b : Addr), j ≠ i → e[j]? = some (some s) → s.isObj → σ[j]? = some (some (.ref b)) → a ≠ b
  brw : ∀ (i : Nat) (o : O) (a : Addr), e[i]? = some (some (.brw o)) → σ[i]? = some (some (.ref a)) → a ∉ ι
theorem Obj.of {σ : SV} {e : En} {a : Addr} (h : Own σ e a) : Obj σ e a := let ⟨i, o, h1, h2⟩ := h; ⟨i, _, h1, trivial, h2⟩
/-- tuples and locked things stay -/
structure Stay (H H' : Hp) : Prop where
  tup : ∀ a xs, H a = some (.tup xs) → H' a = some (.tup xs)
  frz : ∀ a o u, H a = some (.frz o u) → H' a = some (.frz o u)
  exc : ∀ a C, ExcS H a C → ExcS H' a C
  cod : ∀ a q, H a = some (LamX.CodeO a q) → H' a = some (LamX.CodeO a q)
  lmu : ∀ a u, H a = some u → LmU a u → H' a = some u
structure Post (H : Hp) (ι : List Addr) (σ : SV) (e : En) (H' : Hp) (ι' : List Addr) (σ' : SV) (e' : En) : Prop where
  pre : ∃ l, ι' = ι ++ l
  stay : Stay H H'
  dom : ∀ a o, H a = some o → ∃ o', H' a = some o'
  keep : ∀ a o, H a = some o → a ∉ ι → ¬ Own σ e a → H' a = some o ∧ a ∉ ι' ∧ ¬ Own σ' e' a ∧ (¬ Obj σ e a → ¬ Obj σ' e' a)

theorem exa_inj {a : Addr} {o o' : PySem.Obj} (h : exa a o = exa a o') (hf : o.data ≠ .freed) : o = o' := by
  have e := congrFun (HO.ext.inj h) { objs := Array.replicate (a + 1) o }
  have h1 := at_rep (a := a) hf
  have h2 := e.mp h1
  rw [h1] at h2
  exact Option.some.inj h2
theorem exa_ns {a : Addr} {o : PySem.Obj} (h : ∀ vs, o.data ≠ .fields vs) (hf : o.data ≠ .freed) (hcl : ∀ v, o.data ≠ .cell v) (hfn : ∀ fd, o.data ≠ .func fd) : NS a (exa a o) := by
  have hg : ({ objs := Array.replicate (a + 1) o } : Heap).get? a = some o := by
    obtain ⟨c, d, dt, sl⟩ := o
    cases dt <;> first | exact absurd rfl hf | simp [Heap.get?]
  refine ⟨fun C z => ?_, fun C d z => ?_, fun q z => ?_, ?_⟩
  · have e := congrFun (HO.ext.inj z) { objs := Array.replicate (a + 1) o }
    obtain ⟨oe, vs, h1, _, h2, _⟩ := e.mp hg
    rw [hg] at h1
    cases h1
    exact h vs h2
  · have e := congrFun (HO.ext.inj z) { objs := Array.replicate (a + 1) o }
    obtain ⟨t1, h1⟩ := e.mp hg
    rw [hg] at h1
    cases h1
    exact h _ rfl
  · unfold LamX.CodeO at z
    have e := congrFun (HO.ext.inj z) { objs := Array.replicate (a + 1) o }
    obtain ⟨oe, vs, t, h1, h2, _⟩ := e.mp hg
    rw [hg] at h1
    cases h1
    exact h vs h2
  · rintro (⟨F, b, z⟩ | ⟨o2, v, z, e2⟩)
    · unfold LmO at z
      obtain ⟨od, sl, pm, tv, e3⟩ := (congrFun (HO.ext.inj z) { objs := Array.replicate (a + 1) o }).mp hg
      rw [hg] at e3
      exact hfn (PySem.W.kla_fn F.name F.qual F.params b F.scope F.cl pm (.ref F.c) tv) (by rw [Option.some.inj e3])
    · obtain rfl := exa_inj z hf
      exact hcl v e2
theorem Stay.refl (H : Hp) : Stay H H := ⟨fun _ _ h => h, fun _ _ _ h => h, fun _ _ h => h, fun _ _ h => h, fun _ _ h _ => h⟩
theorem Stay.trans {H H1 H2 : Hp} (a : Stay H H1) (b : Stay H1 H2) : Stay H H2 := ⟨fun x y h => b.tup x y (a.tup x y h), fun x y z h => b.frz x y z (a.frz x y z h), fun x y h => b.exc x y (a.exc x y h), fun x y h => b.cod x y (a.cod x y h), fun x y h z => b.lmu x y (a.lmu x y h z) z⟩
theorem Stay.new {H : Hp} {p : Addr} {o : HO} (h : H p = none) : Stay H (upd H p o) :=
  ⟨fun a xs e => by rw [upd_ne (ne_of_none e h)]; exact e, fun a o xs e => by rw [upd_ne (ne_of_none e h)]; exact e, fun a C e => by
    rcases e with e | ⟨dd, u, e, e2, e3⟩
    · exact .inl (by rw [upd_ne (ne_of_none e h)]; exact e)
    · exact .inr ⟨dd, u, by rw [upd_ne (ne_of_none e h)]; exact e, by rw [upd_ne (ne_of_none e2 h)]; exact e2, e3⟩, fun a q e => by rw [upd_ne (ne_of_none e h)]; exact e, fun a q e _ => by rw [upd_ne (ne_of_none e h)]; exact e⟩
theorem Stay.mut {H : Hp} {p : Addr} {o u : HO} (h : H p = some u) (n1 : ∀ xs, u ≠ .tup xs) (n2 : ∀ o x, u ≠ .frz o x) (n3 : NS p u := by first | exact ⟨fun _ z => (nomatch z), fun _ _ z => (nomatch z), fun _ => co_lst, lmu_lst⟩ | exact ⟨fun _ z => (nomatch z), fun _ _ z => (nomatch z), fun _ => co_dK, lmu_dK⟩) (n4 : ¬ LmU p o := by first | exact lmu_lst | exact lmu_dK | exact lmu_of (fun _ z => nomatch z)) : Stay H (upd H p o) :=
  ⟨fun a xs e => by rw [upd_ne (ne_of e h (n1 xs).symm)]; exact e, fun a o xs e => by rw [upd_ne (ne_of e h (n2 _ _).symm)]; exact e, fun a C e => by
    rcases e with e | ⟨dd, v, e, e2, e3⟩
    · have hne : a ≠ p := fun z => by subst z; rw [h] at e; exact n3.1 _ (Option.some.inj e)
      exact .inl (by rw [upd_ne hne]; exact e)
    · have hne : a ≠ p := fun z => by subst z; rw [h] at e; exact n3.2.1 _ _ (Option.some.inj e)
      by_cases hd : dd = p
      · subst hd
        exact .inr ⟨dd, o, by rw [upd_ne hne]; exact e, upd_same, n4⟩
      · exact .inr ⟨dd, v, by rw [upd_ne hne]; exact e, by rw [upd_ne hd]; exact e2, e3⟩, fun a q e => by
    have hne : a ≠ p := fun z => by subst z; rw [h] at e; exact n3.2.2.1 _ (Option.some.inj e)
    rw [upd_ne hne]; exact e, fun a q e z => by
    have hne : a ≠ p := fun y => by subst y; rw [h] at e; rw [← Option.some.inj e] at z; exact n3.2.2.2 z
    rw [upd_ne hne]; exact e⟩
theorem Post.refl {H : Hp} {ι : List Addr} {σ : SV} {e : En} : Post H ι σ e H ι σ e := ⟨⟨[], by simp⟩, .refl _, fun _ o h => ⟨o, h⟩, fun _ _ h1 h2 h3 => ⟨h1, h2, h3, fun h => h⟩⟩
theorem Post.trans {H H1 H2 : Hp} {ι ι1 ι2 : List Addr} {σ σ1 σ2 : SV} {e e1 e2 : En} (a : Post H ι σ e H1 ι1 σ1 e1) (b : Post H1 ι1 σ1 e1 H2 ι2 σ2 e2) : Post H ι σ e H2 ι2 σ2 e2 := by
  obtain ⟨⟨l, rfl⟩, s, d, k⟩ := a
  obtain ⟨⟨l', rfl⟩, s', d', k'⟩ := b
  exact ⟨⟨l ++ l', by simp⟩, s.trans s', fun x o h => let ⟨o1, h1⟩ := d x o h; d' x o1 h1, fun x o h1 h2 h3 => let ⟨q1, q2, q3, q4⟩ := k x o h1 h2 h3; let ⟨z1, z2, z3, z4⟩ := k' x o q1 q2 q3; ⟨z1, z2, z3, fun h => z4 (q4 h)⟩⟩

section
variable {K : PySem.W.Frag} {H H' : Hp} {ι ι' : List Addr}
theorem stay_t (s : Stay H H') {a : Addr} {xs : List V} (h : SqT K H a xs) : SqT K H' a xs := by
  rcases h with (h | ⟨o, h⟩) | h
  · exact .inl (.inl (s.tup _ _ h))
  · exact .inl (.inr ⟨o, s.frz _ _ _ h⟩)
  · exact .inr h
theorem stay_l (s : Stay H H') {a : Addr} {xs : List V} (h : LF K H a xs) : LF K H' a xs := by
  rcases h with ⟨o, h⟩ | h
  · exact .inl ⟨o, s.frz _ _ _ h⟩
  · exact .inr h
theorem XdAt.mono (f : ∀ b o gs, H b = some (.frz o (.xd gs)) → H' b = some (.frz o (.xd gs))) {d : Option Addr} {fs : List (Str × V)} (h : XdAt H d fs) : XdAt H' d fs := by
  cases d with
  | none => exact h
  | some dd => obtain ⟨od, e⟩ := h; exact ⟨od, f _ _ _ e⟩
mutual
theorem RD.mono (s : Stay H H') (p : ∃ l, ι' = ι ++ l) : ∀ (d : D) (v : V), RD K H ι v d → RD K H' ι' v d
  | .non, _, h => by cases h; exact .non
  | .bl b, _, h => by cases h; exact .bl b
  | .int b, _, h => by cases h; exact .int b
  | .str b, _, h => by cases h; exact .str b
  | .tup ds, _, h => by cases h with | tup h1 h2 => exact .tup (stay_t s h1) (RDs.mono s p ds _ h2)
  | .lst ds, _, h => by cases h with | lst h1 h2 => exact .lst (stay_l s h1) (RDs.mono s p ds _ h2)
  | .dic ks ds, _, h => by cases h with | dic h1 h2 h3 => exact .dic (s.frz _ _ _ h1) h2 (RDs.mono s p ds _ h3)
  | .ref n, _, h => by
    cases h with | ref h1 =>
      obtain ⟨l, rfl⟩ := p
      exact .ref (by rw [List.getElem?_append_left (List.getElem?_eq_some_iff.mp h1).1]; exact h1)
  | .fn a, _, h => by cases h; exact .fn a
  | .exc C ns ds, _, h => by cases h with | exc h1 h2 h3 h4 h5 h6 => exact .exc (s.frz _ _ _ h1) h2 h3 (h4.mono fun _ _ _ => s.frz _ _ _) h5 (RDs.mono s p ds _ h6)
theorem RDs.mono (s : Stay H H') (p : ∃ l, ι' = ι ++ l) : ∀ (ds : List D) (vs : List V), RDs K H ι vs ds → RDs K H' ι' vs ds
  | [], _, h => by cases h; exact .nil
  | d :: ds, _, h => by cases h with | cons h1 h2 => exact .cons (RD.mono s p d _ h1) (RDs.mono s p ds _ h2)
end
theorem RK.mono (s : Stay H H') (p : ∃ l, ι' = ι ++ l) {ws : List (Key × V)} {kvs : List (Key × D)} (h : RK K H ι ws kvs) : RK K H' ι' ws kvs :=
  Paired.mapP h fun _ _ z => ⟨z.1, RD.mono s p _ _ z.2⟩
theorem KyR.mono (s : Stay H H') (p : ∃ l, ι' = ι ++ l) {k : NestedKey} {u : Value} {d : D} (h : KyR K H ι k u d) : KyR K H' ι' k u d :=
  h.imp (fun ⟨t, y, r, z⟩ => ⟨t, y, r, RD.mono s p _ _ z⟩) id
theorem RO.mono (s : Stay H H') (p : ∃ l, ι' = ι ++ l) {a : Addr} {o : O} (k : ∀ u, H a = some u → H' a = some u) (h : RO K H ι a o) : RO K H' ι' a o := by
  cases o with
  | tab q =>
    obtain ⟨h0, ps, h1, h2, h3⟩ := h
    exact ⟨h0, ps, k _ h1, h2, fun pos cv hc => let ⟨c, e1, e2⟩ := h3 pos cv hc; ⟨c, e1, s.cod _ _ e2⟩⟩
  | ins c ns ds => obtain ⟨dx, xs, h1, h2, h3⟩ := h; exact ⟨dx, xs, k _ h1, h2, RDs.mono s p _ _ h3⟩
  | lst ds => obtain ⟨xs, h1, h2⟩ := h; exact ⟨xs, k _ h1, RDs.mono s p _ _ h2⟩
  | dct kvs => obtain ⟨ws, h1, h2⟩ := h; exact ⟨ws, k _ h1, h2.mono s p⟩
  | kx kvs => obtain ⟨o, ws, h1, h2⟩ := h; exact ⟨o, ws, k _ h1, h2.mono s p⟩
  | kd kvs =>
    obtain ⟨o, es, ep, xs, h⟩ := h
    exact ⟨o, es, ep, xs, k _ h.at_, h.ex, h.dt, h.en, h.nd, h.sz, h.sm, h.dp, h.md, Paired.mapP h.pr fun _ _ z => ⟨z.1, z.2.1.mono s p, z.2.2.1, RD.mono s p _ _ z.2.2.2⟩⟩
theorem RO.there {a : Addr} {o : O} (h : RO K H ι a o) : ∃ u, H a = some u ∧ True ∧ (∀ xs, u ≠ .tup xs) ∧ ((∀ kvs, o ≠ .kx kvs) → ∀ o x, u ≠ .frz o x) := by
  cases o with
  | tab q => obtain ⟨_, ps, h1, _⟩ := h; exact ⟨_, h1, trivial, fun _ z => (nomatch z), fun _ _ _ z => (nomatch z)⟩
  | ins c ns ds => obtain ⟨dx, xs, h1, _⟩ := h; exact ⟨_, h1, trivial, fun _ z => (nomatch z), fun _ _ _ z => (nomatch z)⟩
  | lst ds => obtain ⟨xs, h1, h2⟩ := h; exact ⟨_, h1, trivial, fun _ z => (nomatch z), fun _ _ _ z => (nomatch z)⟩
  | dct kvs => obtain ⟨xs, h1, h2⟩ := h; exact ⟨_, h1, trivial, fun _ z => (nomatch z), fun _ _ _ z => (nomatch z)⟩
  | kd kvs => obtain ⟨o, es, ep, xs, h⟩ := h; exact ⟨_, h.at_, trivial, fun _ z => (nomatch z), fun _ _ _ z => (nomatch z)⟩
  | kx kvs => obtain ⟨o, ws, h1, _⟩ := h; exact ⟨_, h1, trivial, fun _ z => (nomatch z), fun z => absurd rfl (z kvs)⟩
theorem RO.ns {a : Addr} {o : O} (h : RO K H ι a o) {u : HO} (hu : H a = some u) : NS a u := by
  cases o with
  | tab q => obtain ⟨_, ps, h1, _⟩ := h; rw [h1] at hu; cases hu; exact ⟨fun _ z => (nomatch z), fun _ _ z => (nomatch z), fun _ z => LamX.codeO_ne _ z.symm, lmu_of fun _ z => nomatch z⟩
  | ins c ns ds => obtain ⟨dx, xs, h1, _⟩ := h; rw [h1] at hu; cases hu; exact ⟨fun _ z => (nomatch z), fun _ _ z => (nomatch z), fun _ => co_ins, lmu_of fun _ z => nomatch z⟩
  | lst ds => obtain ⟨xs, h1, h2⟩ := h; rw [h1] at hu; cases hu; exact ⟨fun _ z => (nomatch z), fun _ _ z => (nomatch z), fun _ => co_lst, lmu_lst⟩
  | dct kvs => obtain ⟨xs, h1, h2⟩ := h; rw [h1] at hu; cases hu; exact ⟨fun _ z => (nomatch z), fun _ _ z => (nomatch z), fun _ => co_dK, lmu_dK⟩
  | kx kvs => obtain ⟨o, ws, h1, _⟩ := h; rw [h1] at hu; cases hu; exact ⟨fun _ z => (nomatch z), fun _ _ z => (nomatch z), fun _ z => (by unfold LamX.CodeO at z; cases z), lmu_of fun _ z => nomatch z⟩
  | kd kvs =>
    obtain ⟨o, es, ep, xs, h⟩ := h
    have h1 := h.at_
    rw [h1] at hu
    cases hu
    exact exa_ns (fun vs z => by rw [h.dt] at z; cases z) (fun z => by rw [h.dt] at z; cases z) (fun _ z => by rw [h.dt] at z; cases z) (fun _ z => by rw [h.dt] at z; cases z)
theorem LmR.mono {v : V} {i : Nat} {cs : List D} {Z Z' : Addr → Prop} (h : LmR K H ι v i cs Z) (s : Stay H H') (p : ∃ l, ι' = ι ++ l) (k' : ∀ a u, Z a → H a = some u → LmU a u → Z' a) : LmR K H' ι' v i cs Z' := by
  have k : ∀ a u, Z a → H a = some u → LmU a u → H' a = some u ∧ Z' a := fun a u z e l => ⟨s.lmu a u e l, k' a u z e l⟩
  obtain ⟨f, c, cl, rfl, h1, h2, h3, h4, h5, h6, h7⟩ := h
  obtain ⟨k1, k2⟩ := k f _ h3 h1 (.inl ⟨_, _, rfl⟩)
  refine ⟨f, c, cl, rfl, k1, s.cod _ _ h2, k2, fun y a e => ?_, h5, h6, fun j y d e1 e2 => ?_⟩
  · obtain ⟨z, o, v, e1, e2⟩ := h4 y a e
    obtain ⟨q1, q2⟩ := k a _ z e1 (.inr ⟨o, v, rfl, e2⟩)
    exact ⟨q2, o, v, q1, e2⟩
  · obtain ⟨a, o, u, v, q1, q2, q3, q4, q5⟩ := h7 j y d e1 e2
    obtain ⟨z, _⟩ := h4 y a q1
    exact ⟨a, o, u, v, q1, (k a _ z q2 (.inr ⟨o, _, rfl, q3⟩)).1, q3, q4, RD.mono s p _ _ q5⟩
/-- no object of the store's kinds is a lambda's or a cell -/
theorem RO.nlm {a : Addr} {o : O} (h : RO K H ι a o) {u : HO} (hu : H a = some u) : ¬ LmU a u := by
  have ne : ∀ w : HO, u = w → (∀ p, w ≠ .ext p) → ¬ LmU a u := fun w e h z => by
    subst e
    rcases z with ⟨F, b, z⟩ | ⟨o, v, z, _⟩
    · exact h _ z
    · exact h _ z
  cases o with
  | lst ds => obtain ⟨xs, h1, _⟩ := h; rw [h1] at hu; exact ne _ (Option.some.inj hu).symm fun _ z => nomatch z
  | dct kvs => obtain ⟨xs, h1, _⟩ := h; rw [h1] at hu; exact ne _ (Option.some.inj hu).symm fun _ z => nomatch z
  | kx kvs => obtain ⟨o, ws, h1, _⟩ := h; rw [h1] at hu; exact ne _ (Option.some.inj hu).symm fun _ z => nomatch z
  | tab n => obtain ⟨_, ps, h1, _⟩ := h; rw [h1] at hu; exact ne _ (Option.some.inj hu).symm fun _ z => nomatch z
  | ins c ns ds => obtain ⟨dx, xs, h1, _⟩ := h; rw [h1] at hu; exact ne _ (Option.some.inj hu).symm fun _ z => nomatch z
  | kd kvs =>
    obtain ⟨o', es, ep, xs, k⟩ := h
    have e1 := k.at_
    rw [e1] at hu
    have hf : o'.data ≠ .freed := fun q => by rw [k.dt] at q; cases q
    rintro (⟨F, b, z⟩ | ⟨o2, v, z, e2⟩)
    · rw [← Option.some.inj hu] at z
      unfold LmO at z
      have hg := at_rep (a := a) hf
      obtain ⟨od, sl, pm, tv, e3⟩ := (congrFun (HO.ext.inj z) { objs := Array.replicate (a + 1) o' }).mp hg
      rw [hg] at e3
      have e4 := k.dt
      rw [Option.some.inj e3] at e4
      cases e4
    · rw [← Option.some.inj hu] at z
      obtain rfl := exa_inj z hf
      rw [k.dt] at e2; cases e2
theorem RDs.length : ∀ {vs : List V} {ds : List D}, RDs K H ι vs ds → vs.length = ds.length
  | _, [], h => by cases h; rfl
  | _, _ :: _, h => by cases h with | cons _ h2 => simp [RDs.length h2]
theorem RDs.get : ∀ {vs : List V} {ds : List D} {i : Nat} {d : D}, RDs K H ι vs ds → ds[i]? = some d → ∃ v, vs[i]? = some v ∧ RD K H ι v d
  | _, [], _, _, h, e => by simp at e
  | _, _ :: _, 0, _, h, e => by cases h with | cons h1 h2 => simp at e; subst e; exact ⟨_, rfl, h1⟩
  | _, _ :: _, i + 1, d, h, e => by
    cases h with | cons h1 h2 =>
      obtain ⟨v, e1, r⟩ := RDs.get h2 (by simpa using e)
      exact ⟨v, by simpa using e1, r⟩
theorem RDs.append : ∀ {vs ws : List V} {ds es : List D}, RDs K H ι vs ds → RDs K H ι ws es → RDs K H ι (vs ++ ws) (ds ++ es)
  | _, _, [], _, h, h' => by cases h; exact h'
  | _, _, _ :: _, _, h, h' => by cases h with | cons h1 h2 => exact .cons h1 (RDs.append h2 h')
theorem RDs.take (n : Nat) : ∀ {vs : List V} {ds : List D}, RDs K H ι vs ds → RDs K H ι (vs.take n) (ds.take n) := by
  induction n with
  | zero => intro vs ds h; simp; exact .nil
  | succ n ih => intro vs ds h; cases h with
    | nil => simp; exact .nil
    | cons h1 h2 => simp; exact .cons h1 (ih h2)
theorem RDs.drop (n : Nat) : ∀ {vs : List V} {ds : List D}, RDs K H ι vs ds → RDs K H ι (vs.drop n) (ds.drop n) := by
  induction n with
  | zero => intro vs ds h; simpa using h
  | succ n ih => intro vs ds h; cases h with
    | nil => simp; exact .nil
    | cons h1 h2 => simp; exact ih h2
theorem RDs.set : ∀ {vs : List V} {ds : List D} {v : V} {d : D} (i : Nat), RDs K H ι vs ds → RD K H ι v d → RDs K H ι (vs.set i v) (ds.set i d)
  | _, _, _, _, _, .nil, _ => .nil
  | _, _, _, _, 0, .cons h1 h2, r => .cons r h2
  | _, _, _, _, i + 1, .cons h1 h2, r => .cons h1 (RDs.set i h2 r)
theorem RDs.reverse : ∀ {vs : List V} {ds : List D}, RDs K H ι vs ds → RDs K H ι vs.reverse ds.reverse
  | _, _, .nil => .nil
  | _, _, .cons h1 h2 => by rw [List.reverse_cons, List.reverse_cons]; exact (RDs.reverse h2).append (.cons h1 .nil)
end
theorem Post.back {H H' : Hp} {ι ι' : List Addr} {σ σ' : SV} {e e' : En} (P : Post H ι σ e H' ι' σ' e') {a : Addr} (h : H' a = none) : H a = none := by
  cases q : H a with
  | none => rfl
  | some o => obtain ⟨o', q'⟩ := P.dom a o q; rw [h] at q'; cases q'
end G

set_option Elab.async false
set_option linter.all false
set_option maxRecDepth 1000000
set_option maxHeartbeats 2000000
/-! G1: judgements by functions; expressions. -/
namespace G
variable [Wld]
open PySem PySem.Spec PyProof.Rows L2

def RR (K : PySem.W.Frag) (H : Hp) (ι : List Addr) (σ : SV) (e : En) (v : V) : R → Prop
  | .d x => RD K H ι v x
  | .new o => ∃ a, v = .ref a ∧ RO K H ι a o ∧ a ∉ ι ∧ ¬ Obj σ e a
  | .brw o => ∃ a, v = .ref a ∧ RO K H ι a o ∧ a ∉ ι ∧ ¬ Own σ e a
  | .loc i => σ[i]? = some (some v)
  | .lm i cs => LmR K H ι v i cs fun a => a ∉ ι ∧ ¬ Own σ e a
def Fresh (H : Hp) (v : V) : R → Prop
  | .new _ => ∃ a, v = .ref a ∧ H a = none
  | _ => True
section
variable {K : PySem.W.Frag} {H H' : Hp} {ι ι' : List Addr} {σ σ' : SV} {e e' : En} {S S' : Sto} {v : V} {r : R}
theorem RR.post (h : RR K H ι σ e v r) (P : Post H ι σ e H' ι' σ e') : RR K H' ι' σ e' v r := by
  cases r with
  | d x => exact RD.mono P.stay P.pre _ _ h
  | new o =>
    obtain ⟨a, rfl, ro, h1, h2⟩ := h
    obtain ⟨u, hu, _⟩ := ro.there
    have h3 : ¬ Own σ e a := fun z => h2 (.of z)
    obtain ⟨_, k1, _, k2⟩ := P.keep a u hu h1 h3
    exact ⟨a, rfl, ro.mono P.stay P.pre fun u' hu' => (P.keep a u' hu' h1 h3).1, k1, k2 h2⟩
  | brw o =>
    obtain ⟨a, rfl, ro, h1, h2⟩ := h
    obtain ⟨u, hu, _⟩ := ro.there
    obtain ⟨_, k1, k2, _⟩ := P.keep a u hu h1 h2
    exact ⟨a, rfl, ro.mono P.stay P.pre fun u' hu' => (P.keep a u' hu' h1 h2).1, k1, k2⟩
  | loc i => exact h
  | lm i cs => exact LmR.mono h P.stay P.pre fun a u ⟨z1, z2⟩ e l => let ⟨_, k1, k2, _⟩ := P.keep a u e z1 z2; ⟨k1, k2⟩
theorem Fresh.back (h : Fresh H' v r) (P : Post H ι σ e H' ι' σ' e') : Fresh H v r := by
  cases r with
  | new o => obtain ⟨a, rfl, h1⟩ := h; exact ⟨a, rfl, P.back h1⟩
  | _ => trivial
end
/-- the reading by a function -/
def tG (K : PySem.W.Frag) (m : M R) : TE := fun σ H Q => ∃ ι e S r e' S', Rel K H ι σ e S ∧ m e S = some (r, e', S') ∧
  ∀ v H' ι', Rel K H' ι' σ e' S' → Post H ι σ e H' ι' σ e' → RR K H' ι' σ e' v r → Fresh H v r → Q v H'
def tGT (K : PySem.W.Frag) (m : M Bool) : TT := fun σ H Q => ∃ ι e S r e' S', Rel K H ι σ e S ∧ m e S = some (r, e', S') ∧
  ∀ H' ι', Rel K H' ι' σ e' S' → Post H ι σ e H' ι' σ e' → Q r H'
inductive RRs (K : PySem.W.Frag) (H : Hp) (ι : List Addr) (σ : SV) (e : En) : List V → List R → Prop
  | nil : RRs K H ι σ e [] []
  | cons {v vs r rs} : RR K H ι σ e v r → RRs K H ι σ e vs rs → RRs K H ι σ e (v :: vs) (r :: rs)
def tGA (K : PySem.W.Frag) (m : M (List R)) : TA := fun σ H Q => ∃ ι e S r e' S', Rel K H ι σ e S ∧ m e S = some (r, e', S') ∧
  ∀ vs H' ι', Rel K H' ι' σ e' S' → Post H ι σ e H' ι' σ e' → RRs K H' ι' σ e' vs r → Q vs H'
theorem RRs.post {K : PySem.W.Frag} {H H' : Hp} {ι ι' : List Addr} {σ : SV} {e e' : En} {vs : List V} {rs : List R} (h : RRs K H ι σ e vs rs) (P : Post H ι σ e H' ι' σ e') : RRs K H' ι' σ e' vs rs := by
  induction h with
  | nil => exact .nil
  | cons h1 _ ih => exact .cons (h1.post P) ih

def bnd {α β : Type} (m : M α) (f : α → M β) : M β := fun e S => match m e S with
  | some (a, e', S') => f a e' S'
  | none => none
def pur {α : Type} (a : α) : M α := fun e S => some (a, e, S)
def stk {α : Type} : M α := fun _ _ => none
theorem bnd_eq {α β : Type} {m : M α} {f : α → M β} {e : En} {S : Sto} {z : β × En × Sto} (h : bnd m f e S = some z) : ∃ a e1 S1, m e S = some (a, e1, S1) ∧ f a e1 S1 = some z := by
  unfold bnd at h
  split at h
  · exact ⟨_, _, _, by assumption, h⟩
  · cases h
theorem PE.imp {X : Cx} {ex : Expr} {t t' : TE} (h : PE X ex t) (w : ∀ σ H Q, t' σ H Q → t σ H Q) : PE X ex t' := ⟨fun pins s σ H Q I q => h.run pins s σ H Q I (w σ H Q q)⟩
theorem PT.imp {X : Cx} {ex : Expr} {t t' : TT} (h : PT X ex t) (w : ∀ σ H Q, t' σ H Q → t σ H Q) : PT X ex t' := ⟨fun pins s σ H Q I q => h.run pins s σ H Q I (w σ H Q q)⟩
theorem PA.imp {X : Cx} {es : List Expr} {t t' : TA} (h : PA X es t) (w : ∀ σ H Q, t' σ H Q → t σ H Q) : PA X es t' := ⟨fun pos pins s σ H Q I q => h.run pos pins s σ H Q I (w σ H Q q)⟩
theorem PS.imp {X : Cx} {st : Stmt} {t t' : TS} (h : PS X st t) (w : ∀ D σ H, t' D σ H → t D σ H) : PS X st t' := ⟨fun pins s σ H D I q => h.run pins s σ H D I (w D σ H q)⟩
theorem PSs.imp {X : Cx} {st : List Stmt} {t t' : TS} (h : PSs X st t) (w : ∀ D σ H, t' D σ H → t D σ H) : PSs X st t' := ⟨fun pins s σ H D I q => h.run pins s σ H D I (w D σ H q)⟩
abbrev GE (X : Cx) (ex : Expr) (m : M R) : Prop := PE X ex (tG X.K m)
abbrev GT (X : Cx) (ex : Expr) (m : M Bool) : Prop := PT X ex (tGT X.K m)
abbrev GA (X : Cx) (es : List Expr) (m : M (List R)) : Prop := PA X es (tGA X.K m)

/-! ### names, constants -/
/-- no lambda, no captured cell is one of the store or of a slot -/
theorem Rel.away {K : PySem.W.Frag} {H : Hp} {ι : List Addr} {σ : SV} {e : En} {S : Sto} (R : Rel K H ι σ e S) {a : Addr} {u : HO} (h : H a = some u) (l : LmU a u) : a ∉ ι ∧ ¬ Own σ e a := by
  refine ⟨fun z => ?_, fun ⟨i, o, h1, h2⟩ => ?_⟩
  · obtain ⟨n, hn⟩ := List.getElem?_of_mem z
    have hlt := (List.getElem?_eq_some_iff.mp hn).1
    rw [R.ilen] at hlt
    exact (R.st n _ a (List.getElem?_eq_getElem hlt) hn).nlm h l
  · obtain ⟨v, hv, b, rfl, ro⟩ := R.sl i _ h1
    rw [h2] at hv
    cases hv
    exact ro.nlm h l
def mVar (i : Nat) : M R := fun e S => match e[i]? with
  | some (some (.d x)) => some (.d x, e, S)
  | some (some (.own _)) => some (.loc i, e, S)
  | some (some (.brw o)) => some (.brw o, e, S)
  | some (some (.lm i cs)) => some (.lm i cs, e, S)
  | _ => none
def mC (x : D) : M R := pur (.d x)
section
variable {X : Cx} {pos : Pos}
theorem ge_c {ex : Expr} {v : V} {x : D} (h : PE X ex (tC v)) (r : ∀ H ι, RD X.K H ι v x) : GE X ex (mC x) := PE.imp h fun σ H Q q => by
  obtain ⟨ι, e, S, r', e', S', R, hm, q⟩ := q
  cases hm
  exact q v H ι R .refl (r H ι) trivial
theorem ge_int {i : Int} {j} : GE X (.Constant (.int i) j pos) (mC (.int i)) := ge_c pe_int fun _ _ => .int i
theorem ge_bl {i : Bool} {j} : GE X (.Constant (.bool i) j pos) (mC (.bl i)) := ge_c pe_bl fun _ _ => .bl i
theorem ge_non {j} : GE X (.Constant .none j pos) (mC .non) := ge_c pe_non fun _ _ => .non
theorem ge_str {x : Str} {j} : GE X (.Constant (.str x) j pos) (mC (.str x)) := ge_c pe_str fun _ _ => .str x
/-- a constant of the module -/
theorem ge_glob {x : Str} {v : V} {d : D} {u : Value} (hg : Gl X x) (hm : X.mg x = some u) (r : RelV v u) (rd : ∀ H ι, RD X.K H ι v d) (hd : (x == ("__debug__" : Str)) = false := by decide) : GE X (.Name x pos) (mC d) := ge_c (pe_glob hg hm r hd) rd
theorem ge_var (i : Nat) {x : Str} (hN : X.N[i]? = some x := by rfl) (hv : Vis X.env.scope x := by first | exact Or.inl rfl | exact Or.inr (Or.inl rfl) | exact Or.inr (Or.inr rfl)) (hd : (x == ("__debug__" : Str)) = false := by decide)
    (hcd : (x == ("__classdict__" : Str)) = false := by decide) : GE X (.Name x pos) (mVar i) := PE.imp (pe_var hN hv hd hcd) fun σ H Q q => by
  obtain ⟨ι, e, S, r', e', S', R, hm, q⟩ := q
  unfold mVar at hm
  split at hm <;> cases hm
  · rename_i x he
    obtain ⟨v, hv, hr⟩ := R.sl i _ he
    exact ⟨v, hv, q v H ι R .refl hr trivial⟩
  · rename_i o he
    obtain ⟨v, hv, hr⟩ := R.sl i _ he
    exact ⟨v, hv, q v H ι R .refl hv trivial⟩
  · rename_i o he
    obtain ⟨v, hv, a, rfl, ro⟩ := R.sl i _ he
    have h1 := R.brw i o a he hv
    refine ⟨_, hv, q _ H ι R .refl ⟨a, rfl, ro, h1, ?_⟩ trivial⟩
    rintro ⟨j, o', hj, hσ⟩
    have hne : i ≠ j := fun z => by subst z; rw [he] at hj; cases hj
    exact (R.own j o' a hj hσ).2 i _ a hne he trivial hv rfl
  · rename_i k cs he
    obtain ⟨v, hv, hr⟩ := R.sl i _ he
    exact ⟨v, hv, q v H ι R .refl (LmR.mono hr (.refl _) ⟨[], by simp⟩ fun a u _ e l => R.away e l) trivial⟩
end

/-! ### two places -/
def tO2 (K : PySem.W.Frag) (g : R → R → M R) : R2 := fun x y H Q => ∃ ι σ e S rx ry r e' S', Rel K H ι σ e S ∧ RR K H ι σ e x rx ∧ RR K H ι σ e y ry ∧ g rx ry e S = some (r, e', S') ∧
  ∀ v H' ι', Rel K H' ι' σ e' S' → Post H ι σ e H' ι' σ e' → RR K H' ι' σ e' v r → Fresh H v r → Q v H'
def tO1 (K : PySem.W.Frag) (g : R → M R) : V → Hp → VK → Prop := fun x H Q => ∃ ι σ e S rx r e' S', Rel K H ι σ e S ∧ RR K H ι σ e x rx ∧ g rx e S = some (r, e', S') ∧
  ∀ v H' ι', Rel K H' ι' σ e' S' → Post H ι σ e H' ι' σ e' → RR K H' ι' σ e' v r → Fresh H v r → Q v H'
def tOA (K : PySem.W.Frag) (g : List R → M R) : List V → Hp → VK → Prop := fun xs H Q => ∃ ι σ e S rs r e' S', Rel K H ι σ e S ∧ RRs K H ι σ e xs rs ∧ g rs e S = some (r, e', S') ∧
  ∀ v H' ι', Rel K H' ι' σ e' S' → Post H ι σ e H' ι' σ e' → RR K H' ι' σ e' v r → Fresh H v r → Q v H'
theorem OpR.imp {X : Cx} {f : Value → Value → Sem Value} {r r' : R2} (h : OpR X f r) (w : ∀ x y H Q, r' x y H Q → r x y H Q) : OpR X f r' := fun pins s σ H x y v u Q I rx ry q => h pins s σ H x y v u Q I rx ry (w _ _ _ _ q)
theorem UnR.imp {X : Cx} {f : Value → Sem Value} {r r' : V → Hp → VK → Prop} (h : UnR X f r) (w : ∀ x H Q, r' x H Q → r x H Q) : UnR X f r' := fun pins s σ H x v Q I rx q => h pins s σ H x v Q I rx (w _ _ _ q)
theorem CallR.imp {X : Cx} {f : Value} {r r' : List V → Hp → VK → Prop} (h : CallR X f r) (w : ∀ x H Q, r' x H Q → r x H Q) : CallR X f r' := fun pins s σ H x v Q I rx q => h pins s σ H x v Q I rx (w _ _ _ q)
def mBin (g : R → R → M R) (ma mb : M R) : M R := bnd ma fun x => bnd mb fun y => g x y
def mUn (g : R → M R) (ma : M R) : M R := bnd ma g
theorem tG_bin {K : PySem.W.Frag} {g : R → R → M R} {ma mb : M R} {σ : SV} {H : Hp} {Q : VK} (h : tG K (mBin g ma mb) σ H Q) : tOp (tO2 K g) (tG K ma) (tG K mb) σ H Q := by
  obtain ⟨ι, e, S, r, e', S', R, hm, q⟩ := h
  obtain ⟨x, e1, S1, h1, hm⟩ := bnd_eq hm
  obtain ⟨y, e2, S2, h2, hm⟩ := bnd_eq hm
  exact ⟨ι, e, S, x, e1, S1, R, h1, fun v H1 ι1 R1 P1 r1 _ => ⟨ι1, e1, S1, y, e2, S2, R1, h2, fun w H2 ι2 R2 P2 r2 _ =>
    ⟨ι2, σ, e2, S2, x, y, r, e', S', R2, r1.post P2, r2, hm, fun v H3 ι3 R3 P3 r3 f3 => q v H3 ι3 R3 ((P1.trans P2).trans P3) r3 (f3.back (P1.trans P2))⟩⟩⟩
section
variable {X : Cx} {pos : Pos} {a b : Expr} {ma mb : M R}
theorem ge_op {op : Operator} {g : R → R → M R} (ho : OpR X (binaryOp op) (tO2 X.K g)) (ha : GE X a ma) (hb : GE X b mb) : GE X (.BinOp a op b pos) (mBin g ma mb) := PE.imp (pe_op ho ha hb) fun σ H Q q => tG_bin q
theorem ge_cmp {op : CmpOp} {g : R → R → M R} (ho : OpR X (compareOp op) (tO2 X.K g)) (ha : GE X a ma) (hb : GE X b mb) (hm : behindInMarks op b = false := by first | exact nomark _ | rfl) : GE X (.Compare a [op] [b] pos) (mBin g ma mb) :=
  PE.imp (pe_cmpR ho ha hb hm) fun σ H Q q => tG_bin q
def asB (r : R) : M Bool := match r with
  | .d (.bl b) => pur b
  | _ => stk
theorem tG_test {K : PySem.W.Frag} {m : M R} {σ : SV} {H : Hp} {Q : Bool → Hp → Prop} (h : tGT K (bnd m asB) σ H Q) : tG K m σ H fun x H' => ∃ k, x = .bl k ∧ Q k H' := by
  obtain ⟨ι, e, S, r, e', S', R, hm, q⟩ := h
  obtain ⟨x, e1, S1, h1, hm⟩ := bnd_eq hm
  refine ⟨ι, e, S, x, e1, S1, R, h1, fun v H1 ι1 R1 P1 r1 _ => ?_⟩
  unfold asB at hm
  split at hm
  · cases hm
    cases r1
    exact ⟨_, rfl, q H1 ι1 R1 P1⟩
  · cases hm
theorem gt_cmp {op : CmpOp} {g : R → R → M R} (ho : OpR X (compareOp op) (tO2 X.K g)) (ha : GE X a ma) (hb : GE X b mb) (hm : behindInMarks op b = false := by first | exact nomark _ | rfl) : GT X (.Compare a [op] [b] pos) (bnd (mBin g ma mb) asB) :=
  PT.imp (pt_cmpR ho ha hb hm) fun σ H Q q => by
    have h := tG_test q
    exact tG_bin h
theorem gt_val {ex : Expr} {m : M R} (h : GE X ex m) (he : ∀ whole, isTrue ex X.env whole = (do let v ← whole; standAt ex.pos; holding [v] (truthy v)) := by intro _; rfl) : GT X ex (bnd m asB) :=
  PT.imp (pt_val h he) fun σ H Q q => tG_test q
theorem ge_un {op : UnaryOp} {g : R → M R} (ho : UnR X (unaryOp op) (tO1 X.K g)) (ha : GE X a ma) : GE X (.UnaryOp op a pos) (mUn g ma) := PE.imp (pe_un ho ha) fun σ H Q q => by
  obtain ⟨ι, e, S, r, e', S', R, hm, q⟩ := q
  obtain ⟨x, e1, S1, h1, hm⟩ := bnd_eq hm
  exact ⟨ι, e, S, x, e1, S1, R, h1, fun v H1 ι1 R1 P1 r1 _ => ⟨ι1, σ, e1, S1, x, r, e', S', R1, r1, hm, fun v H3 ι3 R3 P3 r3 f3 => q v H3 ι3 R3 (P1.trans P3) r3 (f3.back P1)⟩⟩
/-! ### and, or, not, if -/
def mIf {α : Type} (c : M Bool) (a b : M α) : M α := bnd c fun x => if x = true then a else b
def mNot (c : M Bool) : M Bool := bnd c fun x => pur (!x)
def mAnd (c d : M Bool) : M Bool := bnd c fun x => if x = true then d else pur false
def mOr (c d : M Bool) : M Bool := bnd c fun x => if x = true then pur true else d
def mB (c : M Bool) : M R := bnd c fun x => pur (.d (.bl x))
variable {c d : Expr} {mc md : M Bool} {rest : List Expr}
theorem gt_not (h : GT X c mc) : GT X (.UnaryOp .Not c pos) (mNot mc) := PT.imp (pt_not h) fun σ H Q q => by
  obtain ⟨ι, e, S, r, e', S', R, hm, q⟩ := q
  obtain ⟨x, e1, S1, h1, hm⟩ := bnd_eq hm
  cases hm
  exact ⟨ι, e, S, x, _, _, R, h1, q⟩
theorem tGT_bnd {K : PySem.W.Frag} {m : M Bool} {f : Bool → M Bool} {σ : SV} {H : Hp} {Q : Bool → Hp → Prop} (h : tGT K (bnd m f) σ H Q) : tGT K m σ H fun b H1 => tGT K (f b) σ H1 Q := by
  obtain ⟨ι, e, S, r, e', S', R, hm, q⟩ := h
  obtain ⟨x, e1, S1, h1, hm⟩ := bnd_eq hm
  exact ⟨ι, e, S, x, e1, S1, R, h1, fun H1 ι1 R1 P1 => ⟨ι1, e1, S1, r, e', S', R1, hm, fun H2 ι2 R2 P2 => q H2 ι2 R2 (P1.trans P2)⟩⟩
theorem tGT_pur {K : PySem.W.Frag} {b : Bool} {σ : SV} {H : Hp} {Q : Bool → Hp → Prop} (h : tGT K (pur b) σ H Q) : Q b H := by
  obtain ⟨ι, e, S, r, e', S', R, hm, q⟩ := h
  cases hm
  exact q H ι R .refl
theorem tGT_mono {K : PySem.W.Frag} {m : M Bool} {σ : SV} {H : Hp} {Q Q' : Bool → Hp → Prop} (h : tGT K m σ H Q) (w : ∀ b H, Q b H → Q' b H) : tGT K m σ H Q' := by
  obtain ⟨ι, e, S, r, e', S', R, hm, q⟩ := h
  exact ⟨ι, e, S, r, e', S', R, hm, fun H2 ι2 R2 P2 => w _ _ (q H2 ι2 R2 P2)⟩
theorem tG_bndT {K : PySem.W.Frag} {m : M Bool} {f : Bool → M R} {σ : SV} {H : Hp} {Q : VK} (h : tG K (bnd m f) σ H Q) : tGT K m σ H fun b H1 => tG K (f b) σ H1 Q := by
  obtain ⟨ι, e, S, r, e', S', R, hm, q⟩ := h
  obtain ⟨x, e1, S1, h1, hm⟩ := bnd_eq hm
  exact ⟨ι, e, S, x, e1, S1, R, h1, fun H1 ι1 R1 P1 => ⟨ι1, e1, S1, r, e', S', R1, hm, fun v H2 ι2 R2 P2 r2 f2 => q v H2 ι2 R2 (P1.trans P2) r2 (f2.back P1)⟩⟩
theorem tG_pur {K : PySem.W.Frag} {b : Bool} {σ : SV} {H : Hp} {Q : VK} (h : tG K (pur (.d (.bl b))) σ H Q) : Q (.bl b) H := by
  obtain ⟨ι, e, S, r, e', S', R, hm, q⟩ := h
  cases hm
  exact q _ H ι R .refl (.bl b) trivial
structure GW (X : Cx) (ex : Expr) (m : M Bool) : Prop where
  h : PW X ex (tGT X.K m)
theorem GW.gt {X : Cx} {ex : Expr} {m : M Bool} (g : GW X ex m) : GT X ex m := g.h.pt
theorem PW.imp {X : Cx} {ex : Expr} {t t' : TT} (h : PW X ex t) (w : ∀ σ H Q, t' σ H Q → t σ H Q) : PW X ex t' := ⟨fun wh pins s σ H Q I q => h.run wh pins s σ H Q I (w σ H Q q)⟩
theorem gw_and1 (h : GT X c mc) : GW X (.BoolOp .And [c] pos) mc := ⟨pw_and1 h⟩
theorem gw_or1 (h : GT X c mc) : GW X (.BoolOp .Or [c] pos) mc := ⟨pw_or1 h⟩
theorem gw_and (h : GT X c mc) (h2 : GW X (.BoolOp .And (d :: rest) pos) md) : GW X (.BoolOp .And (c :: d :: rest) pos) (mAnd mc md) := ⟨PW.imp (pw_and h h2.h) fun σ H Q q => tGT_mono (tGT_bnd q) fun b H1 q1 => by
  cases b with
  | true => exact q1
  | false => exact tGT_pur q1⟩
theorem gw_or (h : GT X c mc) (h2 : GW X (.BoolOp .Or (d :: rest) pos) md) : GW X (.BoolOp .Or (c :: d :: rest) pos) (mOr mc md) := ⟨PW.imp (pw_or h h2.h) fun σ H Q q => tGT_mono (tGT_bnd q) fun b H1 q1 => by
  cases b with
  | true => exact tGT_pur q1
  | false => exact q1⟩
theorem ge_ifExp {m1 m2 : M R} {p q : Expr} (hc : GT X c mc) (ha : GE X p m1) (hb : GE X q m2) : GE X (.IfExp c p q pos) (mIf mc m1 m2) := PE.imp (pe_ifExp hc ha hb) fun σ H Q q => tGT_mono (tG_bndT q) fun b H1 q1 => by
  cases b with
  | true => exact q1
  | false => exact q1
/-- .. as values: bools -/
def mAndV (a b : M R) : M R := bnd (bnd a asB) fun x => if x = true then b else pur (.d (.bl false))
def mOrV (a b : M R) : M R := bnd (bnd a asB) fun x => if x = true then pur (.d (.bl true)) else b
def mNotV (a : M R) : M R := bnd (bnd a asB) fun x => pur (.d (.bl (!x)))
theorem ge_one {op} (h : GE X a ma) : GE X (.BoolOp op [a] pos) ma := pe_one h
theorem ge_and {m2 : M R} (ha : GE X a ma) (hb : GE X (.BoolOp .And (b :: rest) pos) m2) : GE X (.BoolOp .And (a :: b :: rest) pos) (mAndV ma m2) := PE.imp (pe_and ha hb) fun σ H Q q => by
  have h := tG_test (tG_bndT q)
  obtain ⟨ι, e, S, r, e', S', R, hm, q⟩ := h
  refine ⟨ι, e, S, r, e', S', R, hm, fun v H' ι' R' P' r' f' => ?_⟩
  obtain ⟨k, rfl, q⟩ := q v H' ι' R' P' r' f'
  refine ⟨k, rfl, ?_⟩
  cases k with
  | true => exact q
  | false => exact tG_pur q
theorem ge_or {m2 : M R} (ha : GE X a ma) (hb : GE X (.BoolOp .Or (b :: rest) pos) m2) : GE X (.BoolOp .Or (a :: b :: rest) pos) (mOrV ma m2) := PE.imp (pe_or ha hb) fun σ H Q q => by
  have h := tG_test (tG_bndT q)
  obtain ⟨ι, e, S, r, e', S', R, hm, q⟩ := h
  refine ⟨ι, e, S, r, e', S', R, hm, fun v H' ι' R' P' r' f' => ?_⟩
  obtain ⟨k, rfl, q⟩ := q v H' ι' R' P' r' f'
  refine ⟨k, rfl, ?_⟩
  cases k with
  | true => exact tG_pur q
  | false => exact q
theorem ge_not (ha : GE X a ma) : GE X (.UnaryOp .Not a pos) (mNotV ma) := PE.imp (pe_not ha) fun σ H Q q => by
  have h := tG_test (tG_bndT q)
  obtain ⟨ι, e, S, r, e', S', R, hm, q⟩ := h
  refine ⟨ι, e, S, r, e', S', R, hm, fun v H' ι' R' P' r' f' => ?_⟩
  obtain ⟨k, rfl, q⟩ := q v H' ι' R' P' r' f'
  exact ⟨k, rfl, tG_pur q⟩
end
end G

set_option Elab.async false
set_option linter.all false
set_option maxRecDepth 1000000
set_option maxHeartbeats 2000000
/-! G2: objects read, written, locked, boxed; argument lists, displays; calls of own defs. -/
namespace G
variable [Wld]
open PySem PySem.Spec PyProof.Rows L2

def look (r : R) (e : En) (S : Sto) : Option O := match r with
  | .d (.ref n) => S[n]?
  | .d (.lst ds) => some (.lst ds)
  | .d (.dic ks ds) => some (.dct (ks.zip ds))
  | .new o => some o
  | .brw o => some o
  | .loc i => match e[i]? with
    | some (some (.own o)) => some o
    | _ => none
  | _ => none
def putE (r : R) (o : O) (e : En) : En := match r with
  | .loc i => e.set i (some (.own o))
  | _ => e
def putS (r : R) (o : O) (S : Sto) : Sto := match r with
  | .d (.ref n) => S.set n o
  | _ => S
/-- what may be written -/
def isW : R → Bool
  | .d (.ref _) => true
  | .loc _ => true
  | _ => false
section
variable {K : PySem.W.Frag} {H H' : Hp} {ι ι' : List Addr} {σ σ' : SV} {e e' : En} {S S' : Sto} {v : V} {r : R} {o : O}
theorem RDs.zipK : ∀ (ks : List Key) {xs : List V} {ds : List D}, RDs K H ι xs ds → RK K H ι (ks.zip xs) (ks.zip ds)
  | [], _, _, _ => .nil
  | _ :: _, _, _, .nil => .nil
  | k :: ks, _, _, .cons h1 h2 => .cons ⟨rfl, h1⟩ (RDs.zipK ks h2)
theorem nodup_at {α : Type} {l : List α} (h : l.Nodup) {i j : Nat} {a : α} (e1 : l[i]? = some a) (e2 : l[j]? = some a) : i = j := by
  obtain ⟨h1, q1⟩ := List.getElem?_eq_some_iff.mp e1
  obtain ⟨h2, q2⟩ := List.getElem?_eq_some_iff.mp e2
  exact (List.getElem_inj h).mp (q1.trans q2.symm)
/-- what is looked at -/
theorem Rel.look (R : Rel K H ι σ e S) (hr : RR K H ι σ e v r) (hl : look r e S = some o) :
    ∃ a, v = .ref a ∧ (RO K H ι a o ∨ (∃ xs ds, LF K H a xs ∧ o = .lst ds ∧ RDs K H ι xs ds) ∨ ∃ ob ws kvs, H a = some (.frz ob (.dK ws)) ∧ o = .dct kvs ∧ RK K H ι ws kvs) := by
  unfold G.look at hl
  split at hl
  · rename_i n
    cases hr with | ref h1 => exact ⟨_, rfl, .inl (R.st _ _ _ hl h1)⟩
  · cases hl
    cases hr with | lst h1 h2 => exact ⟨_, rfl, .inr (.inl ⟨_, _, h1, rfl, h2⟩)⟩
  · cases hl
    cases hr with | dic h1 h2 h3 => exact ⟨_, rfl, .inr (.inr ⟨_, _, _, h1, rfl, RDs.zipK _ h3⟩)⟩
  · cases hl
    obtain ⟨a, rfl, ro, _⟩ := hr
    exact ⟨a, rfl, .inl ro⟩
  · cases hl
    obtain ⟨a, rfl, ro, _⟩ := hr
    exact ⟨a, rfl, .inl ro⟩
  · split at hl
    · cases hl
      rename_i i _ he
      obtain ⟨w, hw, a, rfl, ro⟩ := R.sl _ _ he
      have hr' : σ[i]? = some (some v) := hr
      rw [hr'] at hw
      cases hw
      exact ⟨a, rfl, .inl ro⟩
    · cases hl
  · cases hl
theorem Rel.lookL {ds : List D} (R : Rel K H ι σ e S) (hr : RR K H ι σ e v r) (hl : G.look r e S = some (.lst ds)) : ∃ a xs, v = .ref a ∧ SqL K H a xs ∧ RDs K H ι xs ds := by
  obtain ⟨a, rfl, h | ⟨xs, ds', h, e1, rd⟩ | ⟨ob, ws, kvs, h, e1, rk⟩⟩ := R.look hr hl
  · obtain ⟨xs, h1, h2⟩ := h
    exact ⟨a, xs, rfl, .inl (.inl h1), h2⟩
  · cases e1
    exact ⟨a, xs, rfl, h.sq, rd⟩
  · cases e1
theorem Rel.lookD {kvs : List (Key × D)} (R : Rel K H ι σ e S) (hr : RR K H ι σ e v r) (hl : G.look r e S = some (.dct kvs)) : ∃ a ws, v = .ref a ∧ Rd H a (.dK ws) ∧ RK K H ι ws kvs := by
  obtain ⟨a, rfl, h | ⟨xs, ds', h, e1, rd⟩ | ⟨ob, ws, kvs, h, e1, rk⟩⟩ := R.look hr hl
  · obtain ⟨xs, h1, h2⟩ := h
    exact ⟨a, xs, rfl, .inl h1, h2⟩
  · cases e1
  · cases e1
    exact ⟨a, ws, rfl, .inr ⟨ob, h⟩, rk⟩
/-- a slot's object stands elsewhere than one of the store -/
theorem Rel.slot_ne (R : Rel K H ι σ e S) {i : Nat} {s : Sl} {b : Addr} (he : e[i]? = some (some s)) (hs : s.isObj) (hσ : σ[i]? = some (some (.ref b))) : b ∉ ι := by
  cases s with
  | d x => exact hs.elim
  | own o => exact (R.own i o b he hσ).1
  | brw o => exact R.brw i o b he hσ
  | lm i cs => exact hs.elim
theorem RSl.there (h : RSl K H ι v s) (hs : s.isObj) : ∃ a o u, v = .ref a ∧ RO K H ι a o ∧ H a = some u ∧ (s = .own o ∨ s = .brw o) := by
  cases s with
  | d x => exact hs.elim
  | own o =>
    obtain ⟨a, rfl, ro⟩ := h
    obtain ⟨u, hu, _⟩ := ro.there
    exact ⟨a, o, u, rfl, ro, hu, .inl rfl⟩
  | brw o =>
    obtain ⟨a, rfl, ro⟩ := h
    obtain ⟨u, hu, _⟩ := ro.there
    exact ⟨a, o, u, rfl, ro, hu, .inr rfl⟩
  | lm i cs => exact hs.elim
theorem RSl.mono (s' : Stay H H') (p : ∃ l, ι' = ι ++ l) {s : Sl} (k : ∀ a u, v = .ref a → s.isObj → H a = some u → H' a = some u) (h : RSl K H ι v s) : RSl K H' ι' v s := by
  cases s with
  | d x => exact RD.mono s' p _ _ h
  | own o => obtain ⟨a, rfl, ro⟩ := h; exact ⟨a, rfl, ro.mono s' p fun u hu => k a u rfl trivial hu⟩
  | brw o => obtain ⟨a, rfl, ro⟩ := h; exact ⟨a, rfl, ro.mono s' p fun u hu => k a u rfl trivial hu⟩
  | lm i cs => exact LmR.mono h s' p fun _ _ _ _ _ => trivial
/-- an object that is neither the store's nor a slot's changes its kind, or what stands at a new place -/
theorem Rel.other (R : Rel K H ι σ e S) {a : Addr} {u : HO} (st : Stay H (upd H a u)) (hι : a ∉ ι) (ho : ¬ Obj σ e a) : Rel K (upd H a u) ι σ e S where
  len := R.len
  sl := fun i s he => by
    obtain ⟨w, hw, hs⟩ := R.sl i s he
    refine ⟨w, hw, hs.mono st ⟨[], by simp⟩ fun b x hb hob hx => ?_⟩
    subst hb
    rw [upd_ne (fun (z : b = a) => ho ⟨i, s, he, hob, z ▸ hw⟩)]
    exact hx
  ilen := R.ilen
  st := fun n o b h1 h2 => (R.st n o b h1 h2).mono st ⟨[], by simp⟩ fun x hx => by
    rw [upd_ne (fun (z : b = a) => hι (z ▸ List.mem_of_getElem? h2))]
    exact hx
  nd := R.nd
  own := R.own
  brw := R.brw
/-- a new object -/
theorem Rel.new (R : Rel K H ι σ e S) {a : Addr} {u : HO} (hn : H a = none) : Rel K (upd H a u) ι σ e S ∧ Post H ι σ e (upd H a u) ι σ e ∧ a ∉ ι ∧ ¬ Obj σ e a := by
  have hι : a ∉ ι := fun z => by
    obtain ⟨n, hn'⟩ := List.getElem?_of_mem z
    have hlt := (List.getElem?_eq_some_iff.mp hn').1
    rw [R.ilen] at hlt
    obtain ⟨u, hu, _⟩ := (R.st n _ a (List.getElem?_eq_getElem hlt) hn').there
    rw [hn] at hu; cases hu
  have ho : ¬ Obj σ e a := fun ⟨i, s, h1, h2, h3⟩ => by
    obtain ⟨w, hw, hs⟩ := R.sl i s h1
    rw [h3] at hw; cases hw
    obtain ⟨b, _, u, e1, _, hu, _⟩ := RSl.there hs h2
    cases e1
    rw [hn] at hu; cases hu
  have st : Stay H (upd H a u) := Stay.new hn
  refine ⟨R.other st hι ho, ⟨⟨[], by simp⟩, st, fun b x h => ?_, fun b x h1 h2 h3 => ?_⟩, hι, ho⟩
  · exact ⟨x, by rw [upd_ne (ne_of_none h hn)]; exact h⟩
  · exact ⟨by rw [upd_ne (ne_of_none h1 hn)]; exact h1, h2, h3, fun h => h⟩
/-- what was made since H0 changes -/
theorem Post.fresh {H0 : Hp} {ι0 : List Addr} {σ0 : SV} {e0 : En} (P : Post H0 ι0 σ0 e0 H ι σ e) {a : Addr} {u : HO} (f : H0 a = none) (st : Stay H (upd H a u)) : Post H0 ι0 σ0 e0 (upd H a u) ι σ e := by
  refine ⟨P.pre, P.stay.trans st, fun b x h => ?_, fun b x h1 h2 h3 => ?_⟩
  · rw [upd_ne (ne_of_none h f)]
    exact P.dom b x h
  · rw [upd_ne (ne_of_none h1 f)]
    exact P.keep b x h1 h2 h3
theorem RO.stay {a : Addr} (ro : RO K H ι a o) (u : HO) (n : ¬ LmU a u) (nk : ∀ kvs, o ≠ .kx kvs) : Stay H (upd H a u) := by
  obtain ⟨w, hw, _, n1, n2⟩ := ro.there
  exact Stay.mut hw n1 (n2 nk) (ro.ns hw) n
/-- an object is written -/
theorem Rel.write (R : Rel K H ι σ e S) (hr : RR K H ι σ e v r) (hl : G.look r e S = some o) (hw : isW r = true) (nk : ∀ kvs, o ≠ .kx kvs := by intro _ z; cases z) :
    ∃ a, v = .ref a ∧ RO K H ι a o ∧ ∀ u o', RO K (upd H a u) ι a o' → Rel K (upd H a u) ι σ (putE r o' e) (putS r o' S) ∧ Post H ι σ e (upd H a u) ι σ (putE r o' e) := by
  cases r with
  | new o => cases hw
  | brw o => cases hw
  | lm i cs => cases hw
  | d x =>
    cases x with
    | ref n =>
      have hl' : S[n]? = some o := hl
      cases hr with
      | ref h1 =>
        rename_i a
        have ro := R.st _ _ _ hl' h1
        have hmem := List.mem_of_getElem? h1
        refine ⟨a, rfl, ro, fun u o' ro' => ⟨⟨R.len, fun i s he => ?_, ?_, fun m q b h2 h3 => ?_, R.nd, R.own, R.brw⟩, ⟨⟨[], by simp⟩, ro.stay u (ro'.nlm upd_same) nk, fun b x h => ?_, fun b x h2 h3 h4 => ?_⟩⟩⟩
        · obtain ⟨w, hw, hs⟩ := R.sl i s he
          refine ⟨w, hw, hs.mono (ro.stay u (ro'.nlm upd_same) nk) ⟨[], by simp⟩ fun b x hb hob hx => ?_⟩
          subst hb
          rw [upd_ne (fun (z : b = a) => R.slot_ne he hob hw (z ▸ hmem))]
          exact hx
        · rw [R.ilen]; exact (List.length_set ..).symm
        · by_cases hm : n = m
          · subst hm
            rw [h1] at h3; cases h3
            have h2' : (S.set n o')[n]? = some q := h2
            rw [List.getElem?_set_self (List.getElem?_eq_some_iff.mp hl').1] at h2'
            cases h2'
            exact ro'
          · have h2' : (S.set n o')[m]? = some q := h2
            rw [List.getElem?_set_ne hm] at h2'
            refine (R.st m q b h2' h3).mono (ro.stay u (ro'.nlm upd_same) nk) ⟨[], by simp⟩ fun x hx => ?_
            rw [upd_ne (fun (z : b = a) => hm (nodup_at R.nd h1 (z ▸ h3)))]
            exact hx
        · by_cases hb : b = a
          · subst hb; exact ⟨u, upd_same⟩
          · exact ⟨x, by rw [upd_ne hb]; exact h⟩
        · rw [upd_ne (fun (z : b = a) => h3 (z ▸ hmem))]
          exact ⟨h2, h3, h4, fun h => h⟩
    | _ => cases hw
  | loc i =>
    have hr' : σ[i]? = some (some v) := hr
    have hl' : (match e[i]? with
      | some (some (.own o)) => some o
      | _ => none) = some o := hl
    split at hl'
    all_goals try cases hl'
    rename_i he
    obtain ⟨w, hw', a, rfl, ro⟩ := R.sl _ _ he
    rw [hr'] at hw'; cases hw'
    obtain ⟨hι, hsep⟩ := R.own _ _ _ he hr'
    have hil : i < e.length := (List.getElem?_eq_some_iff.mp he).1
    have at_i : ∀ o', (e.set i (some (.own o')))[i]? = some (some (.own o')) := fun o' => List.getElem?_set_self hil
    have at_j : ∀ o' j, i ≠ j → (e.set i (some (.own o')))[j]? = e[j]? := fun o' j h => List.getElem?_set_ne h
    refine ⟨a, rfl, ro, fun u o' ro' => ⟨⟨?_, fun j s hj => ?_, R.ilen, fun n q b h2 h3 => ?_, R.nd, fun j q b h2 h3 => ?_, fun j q b h2 h3 => ?_⟩, ⟨⟨[], by simp⟩, ro.stay u (ro'.nlm upd_same) nk, fun b x h => ?_, fun b x h2 h3 h4 => ?_⟩⟩⟩
    · rw [R.len]; exact (List.length_set ..).symm
    · have hj' : (e.set i (some (.own o')))[j]? = some (some s) := hj
      by_cases hij : i = j
      · subst hij
        rw [at_i] at hj'; cases hj'
        exact ⟨_, hr', a, rfl, ro'⟩
      · rw [at_j _ _ hij] at hj'
        obtain ⟨w, hw, hs⟩ := R.sl j s hj'
        refine ⟨w, hw, hs.mono (ro.stay u (ro'.nlm upd_same) nk) ⟨[], by simp⟩ fun b x hb hob hx => ?_⟩
        subst hb
        rw [upd_ne (Ne.symm (hsep j s b (Ne.symm hij) hj' hob hw))]
        exact hx
    · refine (R.st n q b h2 h3).mono (ro.stay u (ro'.nlm upd_same) nk) ⟨[], by simp⟩ fun x hx => ?_
      rw [upd_ne (fun (z : b = a) => hι (z ▸ List.mem_of_getElem? h3))]
      exact hx
    · have h2' : (e.set i (some (.own o')))[j]? = some (some (.own q)) := h2
      by_cases hij : i = j
      · subst hij
        rw [hr'] at h3; cases h3
        refine ⟨hι, fun k s c hk h4 h5 h6 => ?_⟩
        have h4' : (e.set i (some (.own o')))[k]? = some (some s) := h4
        rw [at_j _ _ (Ne.symm hk)] at h4'
        exact hsep k s c hk h4' h5 h6
      · rw [at_j _ _ hij] at h2'
        obtain ⟨q1, q2⟩ := R.own j q b h2' h3
        refine ⟨q1, fun k s c hk h4 h5 h6 => ?_⟩
        have h4' : (e.set i (some (.own o')))[k]? = some (some s) := h4
        by_cases hik : i = k
        · subst hik
          exact q2 i _ c hk he trivial h6
        · rw [at_j _ _ hik] at h4'
          exact q2 k s c hk h4' h5 h6
    · have h2' : (e.set i (some (.own o')))[j]? = some (some (.brw q)) := h2
      by_cases hij : i = j
      · subst hij
        rw [at_i] at h2'; cases h2'
      · rw [at_j _ _ hij] at h2'
        exact R.brw j q b h2' h3
    · by_cases hb : b = a
      · subst hb; exact ⟨u, upd_same⟩
      · exact ⟨x, by rw [upd_ne hb]; exact h⟩
    · have hba : b ≠ a := fun (z : b = a) => h4 ⟨i, _, he, z ▸ hr'⟩
      rw [upd_ne hba]
      refine ⟨h2, h3, ?_, ?_⟩
      · rintro ⟨j, q, h5, h6⟩
        have h5' : (e.set i (some (.own o')))[j]? = some (some (.own q)) := h5
        by_cases hij : i = j
        · subst hij
          rw [hr'] at h6; cases h6
          exact hba rfl
        · rw [at_j _ _ hij] at h5'
          exact h4 ⟨j, q, h5', h6⟩
      · rintro h7 ⟨j, s, h5, h5o, h6⟩
        have h5' : (e.set i (some (.own o')))[j]? = some (some s) := h5
        by_cases hij : i = j
        · subst hij
          rw [hr'] at h6; cases h6
          exact hba rfl
        · rw [at_j _ _ hij] at h5'
          exact h7 ⟨j, s, h5', h5o, h6⟩
end
end G

set_option Elab.async false
set_option linter.all false
set_option maxRecDepth 1000000
set_option maxHeartbeats 4000000
/-! GX: defs that are called where no repr is under way. -/
namespace G
variable [Wld]
open PySem PySem.Spec PyProof.Rows L2
/-- FnOk, where no guard stands -/
structure FnG (P : Program) (w : World) (K : PySem.W.Frag) (mg : Str → Option Value) (base : Heap) (k : Nat) (f : Addr) (fd : FuncData) (ps : List Str) (sp : Sp) : Prop where
  len : ∀ vs H Q E, sp vs H Q E → vs.length = ps.length
  run : ∀ (A : Around) (outer : List PySem.Env) (s : Shared) (H : Hp) (args : Args) (us : List Value) (vs : List V) (Q : VK) (E : XK), Room k A → A.guards = some [] → Env0 P w K mg base A outer s H →
    BindsTo s fd args (ps.zip us) → Vals vs us → sp vs H Q E → codeAny (model P w) A (.call (.ref f) args) (CR CX0 outer P w H s Q E) s
section
variable {X : Cx} {k : Nat} {f : Addr} {fd : FuncData} {ps : List Str} {sp : Sp} {dvs : List V} {ds : List Value} {E : XK}
theorem FnG.enter {pins : List (Addr × PySem.Obj)} {σ : SV} {H : Hp} {s : Shared} {Q : VK} {us : List Value} {vs : List V} (F : FnG X.prog X.w X.K X.mg X.base k f fd ps sp) (hr : Room k X.A) (hg : X.A.guards = some []) (hb : Binds X.K fd ps ds) (hd : Vals dvs ds) (hx : Passes CX0 X E)
    (I : Inv X pins σ H s) (r : Vals vs us) (h : sp (vs ++ dvs) H Q E) : wpAny (model X.prog X.w) X.A (call (.ref f) us) (EP X pins σ Q) X.xe s := by
  have rr : Vals (vs ++ dvs) (us ++ ds) := r.append hd
  refine wpAny_call (codeAny_mono (F.run X.A X.stack s H ⟨us, []⟩ _ _ Q E hr hg I.env0 (hb s us I.kIn (by rw [← rr.length]; exact F.len _ _ _ _ h)) rr h) fun z s' hz => ?_)
  match z, hz with
  | .error e, hz => exact hx pins σ H s e s' I hz
  | .ok (.ret u), hz => exact I.after hz
  | .ok .next, hz => exact hz.elim
  | .ok .brk, hz => exact hz.elim
  | .ok .cont, hz => exact hz.elim
theorem FnG.mono {P : Program} {w : World} {K : PySem.W.Frag} {mg : Str → Option Value} {base : Heap} {j k : Nat} {f : Addr} {fd : FuncData} {ps : List Str} {sp : Sp} (F : FnG P w K mg base j f fd ps sp) (h : j ≤ k) : FnG P w K mg base k f fd ps sp :=
  ⟨F.len, fun A outer s H args us vs Q E hr => F.run A outer s H args us vs Q E (hr.mono h)⟩
theorem pe_callG {x : Str} {e : Expr} {es : List Expr} {t : TA} {p pos : Pos} (F : FnG X.prog X.w X.K X.mg X.base k f fd ps sp) (hr : Room k X.A) (hgd : X.A.guards = some []) (hg : Gl X x) (hm : X.mg x = some (.ref f)) (hk : PySem.W.keepIn X.K (.ref f) = true) (hb : Binds X.K fd ps ds) (hd : Vals dvs ds) (hx : Passes CX0 X E)
    (ha : PA X (e :: es) t) (hdb : (x == ("__debug__" : Str)) = false := by decide) (he : starEach (e :: es) X.env = (false, eval e X.env) :: starEach es X.env := by rfl) (hpl : (backTo pos (starEach es X.env)).any (·.1) = false := by rfl) : PE X (.Call (.Name x p) (e :: es) [] pos) (tCall sp dvs E t) :=
  ⟨fun pins s σ H Q I h => wpAny_Call_Name_kw (ld_glob I hg hm (PySem.W.callWith_K (h₀ := X.base) I.ok.mod.kin hk (thn (ha.run pos pins s σ H _ I h) fun us s1 ⟨vs, H1, I1, r, q⟩ => ⟨I1.kIn, F.enter hr hgd hb hd hx I1 r q⟩) he hpl) hdb)⟩
end
section
variable {P : Program} {w : World} {K : PySem.W.Frag} {mg : Str → Option Value} {base : Heap}
theorem deeper_guards {A : Around} {env : PySem.Env} (h : A.guards = some []) : (A.deeper env).guards = some [] := by
  first | exact h | (simp [Around.deeper, pushGuards, h])
/-- a def by its body -/
theorem FnG.of {x qual : Str} {st : Stmt} {f : Addr} {fd : FuncData} {N ps : List Str} {k : Nat} {sp : Sp} (F : Fun K x qual st f fd) (S : FnScope N ps (defScope st)) (len : ∀ vs H Q E, sp vs H Q E → vs.length = ps.length)
    (body : ∀ (cdv : Value), fd.code = cdv → ∀ (A : Around) (outer : List PySem.Env) (s : Shared) (H : Hp) (vs : List V) (Q : VK) (E : XK), Room k (A.deeper (envOfC qual (defScope st) s.heap.objs.size f cdv)) → (A.deeper (envOfC qual (defScope st) s.heap.objs.size f cdv)).guards = some [] → sp vs H Q E →
      ∃ t, PSs (cxOf CX0 P w K mg base N qual (defScope st) f cdv A outer s H E).nox (defBody st) t ∧ t { nx := fun _ H' => Q .non H', rt := Q } (start N vs) H) :
    FnG P w K mg base (k + 1) f fd ps sp := by
  obtain ⟨oc, od, kV, doc, pm, an, cdv, ct, osl, rfl, lk, hcd⟩ := F.ex
  refine ⟨len, fun A outer s H args us vs Q E hr hg e0 hb r hsp => ?_⟩
  have hl := len _ _ _ _ hsp
  have hK : K.In s.heap := e0.mod.kin.keeps fun b o z => (e0.bs b o z).1
  have hlim : s.heap.NoLimit := e0.mod.nolimit.keeps fun b o z => (e0.bs b o z).1
  refine codeAny_call_function hr.depth (hK _ _ lk) rfl S.co S.gen rfl (PySem.W.codeRec_of hK hcd) (hb _ _ _ _ ?_)
  refine wpAny_newFunctionEnv_cells S.kind (fun p hp => ?_) fun env he s1 x => ?_
  · rcases S.par p.1 (List.of_mem_zip (show (p.1, p.2) ∈ ps.zip us from hp)).1 with z | z
    · exact .inl z
    · exact .inr ⟨z, PySem.W.cellsFrom_some _ _ _ (.inl z)⟩
  subst he
  refine ⟨hlim.keeps x.toInCall.keep, codeAny_func ?_⟩
  obtain ⟨t, ht, hq⟩ := body cdv rfl A outer s H vs Q E (hr.deeper _) (deeper_guards hg) hsp
  have I := inv_start (CX := CX0) (E := E) S hr.hd e0 hl r x
  refine wpAny_mono (ht.nox.run [] s1 (start N vs) H _ I hq) (fun fl s' hs => ?_) fun _ _ z => z
  match fl, hs with
  | .ret u, ⟨v, σ', H', J, rv, z⟩ => exact ⟨v, H', J.os, J.bare, J.base, J.hok, rv, z⟩
  | .next, ⟨σ', H', J, z⟩ => exact ⟨.non, H', J.os, J.bare, J.base, J.hok, rfl, z⟩
  | .brk, ⟨_, _, _, z⟩ => exact z.elim
  | .cont, ⟨_, _, _, z⟩ => exact z.elim
end
section
variable {P : Program} {w : World} {K : PySem.W.Frag}
/-- the law's call, where what is tracked is at most the script -/
theorem law_coreG {mg mb : Str → Option Value} {k : Nat} {fa a : Addr} {fd : FuncData} {x : Str} {sp : Sp} {s : Shared} {vs : List Value} {ns : List Int} {H : Hp}
    (KX : K.In s.heap) (hns : s.heap.Ns mainGlobals mg) (hb : s.heap.Ns builtinsNs mb) (hbb : ∀ x : Str, x ≠ "__name__" → mb x = bootBuiltins x) (hlim : s.heap.NoLimit) (hgen : s.gens = #[])
    (ha : s.heap.get? a = some { cls := .type "list", data := .seq vs.toArray }) (hr : Room k callerA)
    (F : ∀ base : Heap, K.In base → base.Ns mainGlobals mg → FnG P w K mg base k fa fd [x] sp) (hbind : ∀ (s : Shared) (u : Value), BindsTo s fd ⟨[u], []⟩ [(x, u)])
    (hO : Only H) (hsp : sp [.ref a] H (fun v _ => v = .bl true) fun _ _ _ => False) (hok : HOk P w H s.heap) (hA : ∀ b, H b ≠ none → b = a) (hK : H a ≠ none → K.lookup a = none) :
    codeAny (model P w) callerA (.call (.ref fa) ⟨[.ref a], []⟩) (fun r s' => r = .ok (.ret (.bool true)) ∧ OldK s.heap s'.heap ∧ s'.os = s.os ∧ AllBare s'.gens) s := by
  have other : ∀ {b : Addr} {o : PySem.Obj}, s.heap.get? b = some o → H b ≠ none → b = a ∧ o = { cls := .type "list", data := .seq vs.toArray } := fun {b o} e z => by
    have e' := hA b z
    subst e'
    rw [ha] at e
    exact ⟨rfl, (Option.some.inj e).symm⟩
  have dictFree : ∀ {b : Addr} {o : PySem.Obj} {es : Array DictEntry} {ep : Nat}, s.heap.get? b = some o → o.data = .dict es ep → H b = none := fun {b o es ep} e d => Classical.byContradiction fun z => by
    obtain ⟨_, rfl⟩ := other e z
    cases d
  have nsK : ∀ {b : Addr} {m : Str → Option Value}, s.heap.Ns b m → (hidT s.heap H).Ns b m := fun {b m} ⟨o, es, ep, e, d, r⟩ => ⟨o, es, ep, hidT_get e (dictFree e d), d, r⟩
  have inK : K.In (hidT s.heap H) := fun b o e => hidT_get (KX b o e) (Classical.byContradiction fun z => by
    obtain ⟨rfl, _⟩ := other (KX b o e) z
    rw [hK z] at e; cases e)
  have e0 : Env0 P w K mg (hidT s.heap H) callerA [] s H :=
    ⟨rfl, ⟨inK, nsK hns, ⟨mb, nsK hb, hbb⟩, let ⟨mc, h1, h2⟩ := hlim; ⟨mc, nsK h1, h2⟩⟩, fun b o e => of_hidT e, Nat.le_of_eq (hidT_size _ _), trivial, fun b hb => (nomatch hb), hok, .of_eq hgen⟩
  refine codeAny_mono ((F _ inK (nsK hns)).run callerA [] s H ⟨[.ref a], []⟩ [.ref a] [.ref a] _ _ hr rfl e0 (hbind s (.ref a)) (.cons rfl .nil) hsp) fun r s' h => ?_
  match r, h with
  | .error e, h => exact (show False from h).elim
  | .ok .next, h => exact h.elim
  | .ok .brk, h => exact h.elim
  | .ok .cont, h => exact h.elim
  | .ok (.ret u), ⟨v, H', os, bare, un, hok', r', q⟩ =>
    obtain rfl : v = .bl true := q
    obtain rfl : u = Value.bool true := r'
    refine ⟨rfl, OldK.of_keep fun b o e => ?_, os, bare⟩
    cases q : H b with
    | none => exact un.keep b o e q (fun z => nomatch z) (fun z => nomatch z)
    | some u =>
      rcases hO b with z | ⟨ob, xs, z⟩
      · rw [q] at z; cases z
      · obtain ⟨e1, _⟩ := hok b _ z
        obtain ⟨e2, _⟩ := hok' b _ (un.frzs b ob _ z)
        rw [e] at e1; cases e1
        exact e2
end
/-- the law's call: the script is locked from the start, or one of the text's own objects -/
theorem law_callG {P : Program} {w : World} {K : PySem.W.Frag} {mg mb : Str → Option Value} {k : Nat} {fa a : Addr} {fd : FuncData} {x : Str} {sp : Sp} {s : Shared} {vs : List Value} {ns : List Int}
    (KX : K.In s.heap) (hns : s.heap.Ns mainGlobals mg) (hb : s.heap.Ns builtinsNs mb) (hbb : ∀ x : Str, x ≠ "__name__" → mb x = bootBuiltins x) (hlim : s.heap.NoLimit) (hgen : s.gens = #[])
    (ha : s.heap.get? a = some { cls := .type "list", data := .seq vs.toArray }) (hi : IntsAre vs ns) (hl : ns.length ≤ sizeLine) (hr : Room k callerA)
    (F : ∀ base : Heap, K.In base → base.Ns mainGlobals mg → FnG P w K mg base k fa fd [x] sp) (hbind : ∀ (s : Shared) (u : Value), BindsTo s fd ⟨[u], []⟩ [(x, u)])
    (hsp : ∀ H : Hp, Only H → SqL K H a (ns.map V.int) → sp [.ref a] H (fun v _ => v = .bl true) fun _ _ _ => False) :
    codeAny (model P w) callerA (.call (.ref fa) ⟨[.ref a], []⟩) (fun r s' => r = .ok (.ret (.bool true)) ∧ OldK s.heap s'.heap ∧ s'.os = s.os ∧ AllBare s'.gens) s := by
  have rv := vals_ints hi
  have go := fun (H : Hp) (hO : Only H) (hS : SqL K H a (ns.map V.int)) => law_coreG (ns := ns) (H := H) KX hns hb hbb hlim hgen ha hr F hbind hO (hsp H hO hS)
  cases hk : K.lookup a with
  | some o =>
    obtain rfl : { cls := .type "list", data := .seq vs.toArray } = o := Option.some.inj (ha.symm.trans (KX a o hk))
    exact go (fun _ => none) (fun _ => .inl rfl) (.inr ⟨_, vs.toArray, _, hk, rfl, rfl, rfl, by rw [List.size_toArray, hi.length]; exact hl, by simpa using rv⟩) (fun _ _ z => nomatch z) (fun _ z => absurd rfl z) (fun z => absurd rfl z)
  | none =>
    let L : HO := .frz { cls := .type "list", data := .seq vs.toArray } (.lst (ns.map V.int))
    have at1 : ∀ b, b ≠ a → (fun b => if b = a then some L else none : Hp) b = none := fun b z => if_neg z
    refine go (fun b => if b = a then some L else none) (fun b => ?_) (.inl (.inr ⟨_, if_pos rfl⟩)) (fun b u z => ?_) (fun b z => Classical.byContradiction fun c => z (at1 b c)) (fun _ => hk)
    · by_cases c : b = a
      · exact .inr ⟨_, _, if_pos c⟩
      · exact .inl (at1 b c)
    · by_cases c : b = a
      · subst c
        obtain rfl : L = u := Option.some.inj ((if_pos rfl).symm.trans z)
        exact ⟨ha, by rw [List.length_map]; exact hl, vs, _, rv, ha⟩
      · rw [at1 b c] at z; cases z
end G

set_option Elab.async false
set_option linter.all false
set_option maxRecDepth 1000000
set_option maxHeartbeats 2000000
/-! G3: locking, boxing; argument lists, displays; calls of own defs. -/
namespace G
variable [Wld]
open PySem PySem.Spec PyProof.Rows L2

/-! ### locking -/
section
variable {X : Cx} {pins : List (Addr × PySem.Obj)} {σ : SV} {H : Hp} {s : Shared}
theorem Inv.freeze (I : Inv X pins σ H s) {a : Addr} {u : HO} (h : H a = some u) (hm : (∃ xs, u = .lst xs) ∨ ∃ kvs, u = .dK kvs) : ∃ o, Inv X pins σ (upd H a (.frz o u)) s := by
  have x := I.hok a u h
  have ob : ∃ o, s.heap.get? a = some o ∧ ∀ H', ObjOk X.prog X.w H' s.heap a u := by
    rcases hm with ⟨xs, rfl⟩ | ⟨kvs, rfl⟩
    · obtain ⟨z, its, n, r, e⟩ := x
      exact ⟨_, e, fun _ => ⟨z, its, n, r, e⟩⟩
    · obtain ⟨z, y, vs, r, o, es, ep, e, c⟩ := x
      exact ⟨o, e, fun _ => ⟨z, y, vs, r, o, es, ep, e, c⟩⟩
  obtain ⟨o, ho, hok⟩ := ob
  have nown : ∀ b y, H b = some (.own y) → b ≠ a := fun b y e z => by
    subst z; rw [h] at e; cases e
    rcases hm with ⟨_, e⟩ | ⟨_, e⟩ <;> cases e
  have ntup : ∀ b y, H b = some (.tup y) → b ≠ a := fun b y e z => by
    subst z; rw [h] at e; cases e
    rcases hm with ⟨_, e⟩ | ⟨_, e⟩ <;> cases e
  have nfrz : ∀ b y z, H b = some (.frz y z) → b ≠ a := fun b y _ e z => by
    subst z; rw [h] at e; cases e
    rcases hm with ⟨_, e⟩ | ⟨_, e⟩ <;> cases e
  have ntbl : ∀ b y, H b = some (.tbl y) → b ≠ a := fun b y e z => by
    subst z; rw [h] at e; cases e
    rcases hm with ⟨_, e⟩ | ⟨_, e⟩ <;> cases e
  have nnon : ∀ b, H b = none → b ≠ a := fun b e z => by subst z; rw [h] at e; cases e
  refine ⟨o, I.ok, I.os, I.bare, ⟨I.base.keep, I.base.slot, fun b q e n hx => ?_, I.base.there, fun b xs e => ?_, fun b q xs e => ?_, fun b ps e => ?_⟩, I.loc, I.cell, ?_, fun x c e => ?_, fun p hp => ?_, fun b q e => ?_, I.len⟩
  · have z := I.base.free b q e n hx
    rw [upd_ne (nnon b z)]; exact z
  · have z := I.base.tups b xs e
    rw [upd_ne (ntup b _ z)]; exact z
  · have z := I.base.frzs b q xs e
    rw [upd_ne (nfrz b _ _ z)]; exact z
  · obtain ⟨m, z⟩ := I.base.tbls b ps e
    exact ⟨m, by rw [upd_ne (ntbl b _ z)]; exact z⟩
  · rw [upd_ne (nnon _ I.free)]; exact I.free
  · rw [upd_ne (nnon _ (I.freeC x c e))]; exact I.freeC x c e
  · obtain ⟨e, n, ne, nf, d⟩ := I.pin p hp
    exact ⟨e, by rw [upd_ne (nnon _ n)]; exact n, ne, nf, d⟩
  · by_cases hb : b = a
    · subst hb
      rw [upd_same] at e; cases e
      exact ⟨ho, hok _⟩
    · rw [upd_ne hb] at e
      exact (I.hok b q e).stay (fun c v _ k => k) (fun c k => by rw [upd_ne (nown c b k)]; exact k) fun c xs k => by rw [upd_ne (ntup c xs k)]; exact k
end
def fzQ (Q : VK) : VK := fun v H1 => Q v H1 ∨ ∃ a u, v = .ref a ∧ H1 a = some u ∧ ((∃ xs, u = .lst xs) ∨ ∃ kvs, u = .dK kvs) ∧ ∀ o, Q v (upd H1 a (.frz o u))
theorem PE.freeze {X : Cx} {ex : Expr} {t : TE} (h : PE X ex t) : PE X ex (fun σ H Q => t σ H (fzQ Q)) := ⟨fun pins s σ H Q I q =>
  thn (h.run pins s σ H _ I q) fun v s1 ⟨x, H1, I1, r1, q1⟩ => by
    rcases q1 with q1 | ⟨a, u, rfl, hu, hm, q1⟩
    · exact ⟨x, H1, I1, r1, q1⟩
    · obtain ⟨o, I2⟩ := Inv.freeze I1 hu hm
      exact ⟨_, _, I2, r1, q1 o⟩⟩
def lock : O → Option D
  | .lst ds => some (.lst ds)
  | .dct kvs => some (.dic (kvs.map (·.1)) (kvs.map (·.2)))
  | .kd _ => none
  | .tab _ => none
  | .ins _ _ _ => none
  | .kx _ => none
theorem List.zip_map_fst_snd {α β : Type} (l : List (α × β)) : (l.map (·.1)).zip (l.map (·.2)) = l := by
  induction l with
  | nil => rfl
  | cons x l ih => simp [ih]
theorem RK.split {K : PySem.W.Frag} {H : Hp} {ι : List Addr} {ws : List (Key × V)} {kvs : List (Key × D)} (h : RK K H ι ws kvs) : ws.map (·.1) = kvs.map (·.1) ∧ RDs K H ι (ws.map (·.2)) (kvs.map (·.2)) := by
  induction h with
  | nil => exact ⟨rfl, .nil⟩
  | cons h1 _ ih => exact ⟨by rw [List.map_cons, List.map_cons, h1.1, ih.1], .cons h1.2 ih.2⟩
/-- as data: a new object is locked -/
def toD (r : R) : M R := fun e S => match r with
  | .d x => some (.d x, e, S)
  | .new o => (lock o).map fun d => (.d d, e, S)
  | .loc i => match e[i]? with
    | some (some (.own o)) => (lock o).map fun d => (.d d, e.set i (some (.d d)), S)
    | _ => none
  | .brw _ => none
  | .lm _ _ => none
def mD (m : M R) : M R := bnd m toD
/-- a new object is put into the store -/
def toBox (r : R) : M R := fun e S => match r with
  | .new o => some (.d (.ref S.length), e, S ++ [o])
  | _ => none
def mBox (m : M R) : M R := bnd m toBox
section
variable {K : PySem.W.Frag} {H : Hp} {ι : List Addr} {σ : SV} {e : En} {S : Sto} {v : V} {o : O} {a : Addr} {d : D}
theorem RO.lock (ro : RO K H ι a o) (hl : lock o = some d) : ∃ u, H a = some u ∧ ((∃ xs, u = .lst xs) ∨ ∃ kvs, u = .dK kvs) ∧ ∀ ob ι', Stay H (upd H a (.frz ob u)) → (∃ l, ι' = ι ++ l) → RD K (upd H a (.frz ob u)) ι' (.ref a) d := by
  cases o with
  | lst ds =>
    cases hl
    obtain ⟨xs, h1, h2⟩ := ro
    exact ⟨_, h1, .inl ⟨_, rfl⟩, fun ob ι' st p => .lst (.inl ⟨_, upd_same⟩) (RDs.mono st p _ _ h2)⟩
  | dct kvs =>
    cases hl
    obtain ⟨ws, h1, h2⟩ := ro
    obtain ⟨q1, q2⟩ := h2.split
    refine ⟨_, h1, .inr ⟨_, rfl⟩, fun ob ι' st p => .dic (xs := ws.map (·.2)) (o := ob) ?_ (by simp) (RDs.mono st p _ _ q2)⟩
    rw [← q1, List.zip_map_fst_snd ws]
    exact upd_same
  | kd kvs => cases hl
  | tab q => cases hl
  | ins _ _ _ => cases hl
  | kx _ => cases hl
/-- the slot's object is locked -/
theorem Rel.lockSlot {i : Nat} {u : HO} {ob : PySem.Obj} (R : Rel K H ι σ e S) (he : e[i]? = some (some (.own o))) (hσ : σ[i]? = some (some (.ref a))) (ro : RO K H ι a o) (rd : RD K (upd H a (.frz ob u)) ι (.ref a) d) (nk : ∀ kvs, o ≠ .kx kvs) :
    Rel K (upd H a (.frz ob u)) ι σ (e.set i (some (.d d))) S ∧ Post H ι σ e (upd H a (.frz ob u)) ι σ (e.set i (some (.d d))) := by
  obtain ⟨hι, hsep⟩ := R.own _ _ _ he hσ
  have hil : i < e.length := (List.getElem?_eq_some_iff.mp he).1
  have at_i : (e.set i (some (.d d)))[i]? = some (some (.d d)) := List.getElem?_set_self hil
  have at_j : ∀ j, i ≠ j → (e.set i (some (.d d)))[j]? = e[j]? := fun j h => List.getElem?_set_ne h
  have st := ro.stay (.frz ob u) (lmu_of fun _ z => nomatch z) nk
  refine ⟨⟨by rw [R.len]; simp, fun j s hj => ?_, R.ilen, fun n q b h2 h3 => ?_, R.nd, fun j q b h2 h3 => ?_, fun j q b h2 h3 => ?_⟩, ⟨⟨[], by simp⟩, st, fun b x h => ?_, fun b x h2 h3 h4 => ?_⟩⟩
  · by_cases hij : i = j
    · subst hij
      rw [at_i] at hj; cases hj
      exact ⟨_, hσ, rd⟩
    · rw [at_j _ hij] at hj
      obtain ⟨w, hw, hs⟩ := R.sl j s hj
      refine ⟨w, hw, hs.mono st ⟨[], by simp⟩ fun b x hb hob hx => ?_⟩
      subst hb
      rw [upd_ne (Ne.symm (hsep j s b (Ne.symm hij) hj hob hw))]
      exact hx
  · refine (R.st n q b h2 h3).mono st ⟨[], by simp⟩ fun x hx => ?_
    rw [upd_ne (fun (z : b = a) => hι (z ▸ List.mem_of_getElem? h3))]
    exact hx
  · by_cases hij : i = j
    · subst hij
      rw [at_i] at h2; cases h2
    · rw [at_j _ hij] at h2
      obtain ⟨q1, q2⟩ := R.own j q b h2 h3
      refine ⟨q1, fun k s c hk h4 h5 h6 => ?_⟩
      by_cases hik : i = k
      · subst hik
        rw [at_i] at h4; cases h4
        exact h5.elim
      · rw [at_j _ hik] at h4
        exact q2 k s c hk h4 h5 h6
  · by_cases hij : i = j
    · subst hij
      rw [at_i] at h2; cases h2
    · rw [at_j _ hij] at h2
      exact R.brw j q b h2 h3
  · by_cases hb : b = a
    · subst hb; exact ⟨_, upd_same⟩
    · exact ⟨x, by rw [upd_ne hb]; exact h⟩
  · have hba : b ≠ a := fun (z : b = a) => h4 ⟨i, _, he, z ▸ hσ⟩
    rw [upd_ne hba]
    refine ⟨h2, h3, ?_, ?_⟩
    · rintro ⟨j, q, h5, h6⟩
      by_cases hij : i = j
      · subst hij
        rw [at_i] at h5; cases h5
      · rw [at_j _ hij] at h5
        exact h4 ⟨j, q, h5, h6⟩
    · rintro h7 ⟨j, s, h5, h5o, h6⟩
      by_cases hij : i = j
      · subst hij
        rw [at_i] at h5; cases h5
        exact h5o.elim
      · rw [at_j _ hij] at h5
        exact h7 ⟨j, s, h5, h5o, h6⟩
/-- a new object becomes one of the store -/
theorem Rel.box {H0 : Hp} {ι0 : List Addr} {σ0 : SV} {e0 : En} (R : Rel K H ι σ e S) (P : Post H0 ι0 σ0 e0 H ι σ e) (ro : RO K H ι a o) (h1 : a ∉ ι) (h2 : ¬ Obj σ e a) (f : H0 a = none) :
    Rel K H (ι ++ [a]) σ e (S ++ [o]) ∧ Post H0 ι0 σ0 e0 H (ι ++ [a]) σ e := by
  have p : ∃ l, ι ++ [a] = ι ++ l := ⟨[a], rfl⟩
  refine ⟨⟨R.len, fun i s he => ?_, by simp [R.ilen], fun n q b h3 h4 => ?_, ?_, fun i q b h3 h4 => ?_, fun i q b h3 h4 => ?_⟩, ⟨?_, P.stay, P.dom, fun b x h3 h4 h5 => ?_⟩⟩
  · obtain ⟨w, hw, hs⟩ := R.sl i s he
    exact ⟨w, hw, hs.mono (.refl _) p fun _ _ _ _ h => h⟩
  · by_cases hn : n < S.length
    · rw [List.getElem?_append_left hn] at h3
      rw [List.getElem?_append_left (by rw [R.ilen]; exact hn)] at h4
      exact (R.st n q b h3 h4).mono (.refl _) p fun _ h => h
    · have hlt := (List.getElem?_eq_some_iff.mp h3).1
      have e : n = S.length := by simp at hlt; omega
      subst e
      rw [List.getElem?_append_right (Nat.le_refl _)] at h3
      rw [List.getElem?_append_right (by rw [R.ilen]; exact Nat.le_refl _), R.ilen] at h4
      simp at h3 h4
      subst h3 h4
      exact ro.mono (.refl _) p fun _ h => h
  · rw [List.nodup_append]
    refine ⟨R.nd, by simp, fun x hx y hy => ?_⟩
    simp at hy; subst hy
    exact fun z => h1 (z ▸ hx)
  · obtain ⟨q1, q2⟩ := R.own i q b h3 h4
    refine ⟨fun hb => ?_, q2⟩
    rcases List.mem_append.mp hb with hb | hb
    · exact q1 hb
    · simp at hb; subst hb
      exact h2 ⟨i, _, h3, trivial, h4⟩
  · intro hb
    rcases List.mem_append.mp hb with hb | hb
    · exact R.brw i q b h3 h4 hb
    · simp at hb; subst hb
      exact h2 ⟨i, _, h3, trivial, h4⟩
  · obtain ⟨l, e⟩ := P.pre
    exact ⟨l ++ [a], by rw [e]; simp⟩
  · obtain ⟨q1, q2, q3, q4⟩ := P.keep b x h3 h4 h5
    refine ⟨q1, fun hb => ?_, q3, q4⟩
    rcases List.mem_append.mp hb with hb | hb
    · exact q2 hb
    · simp at hb; subst hb
      rw [f] at h3; cases h3
end
theorem ge_D {X : Cx} {ex : Expr} {m : M R} (h : GE X ex m) : GE X ex (mD m) := PE.imp (PE.freeze h) fun σ H Q q => by
  obtain ⟨ι, e, S, r, e', S', R, hm, q⟩ := q
  obtain ⟨x, e1, S1, h1, hm⟩ := bnd_eq hm
  refine ⟨ι, e, S, x, e1, S1, R, h1, fun v H1 ι1 R1 P1 r1 f1 => ?_⟩
  cases x with
  | d x => cases hm; exact .inl (q v H1 ι1 R1 P1 r1 trivial)
  | brw o => cases hm
  | lm i cs => cases hm
  | new o =>
    obtain ⟨d, hd, e2⟩ := Option.map_eq_some_iff.mp (show (lock o).map (fun d => (G.R.d d, e1, S1)) = some (r, e', S') from hm)
    cases e2
    obtain ⟨a, rfl, ro, n1, n2⟩ := r1
    obtain ⟨a', ea, f1⟩ := f1
    cases ea
    obtain ⟨u, hu, hk, rd⟩ := ro.lock hd
    refine .inr ⟨a, u, rfl, hu, hk, fun ob => ?_⟩
    have nk : ∀ kvs, o ≠ .kx kvs := fun kvs z => by rw [z] at hd; cases hd
    have st := RO.stay ro (.frz ob u) (lmu_of fun _ z => nomatch z) nk
    exact q _ _ ι1 (R1.other st n1 n2) (P1.fresh f1 st) (rd ob ι1 st ⟨[], by simp⟩) trivial
  | loc i =>
    have hm' : (match e1[i]? with
      | some (some (.own o)) => (lock o).map fun d => (G.R.d d, e1.set i (some (.d d)), S1)
      | _ => none) = some (r, e', S') := hm
    split at hm'
    · rename_i o he
      obtain ⟨d, hd, e2⟩ := Option.map_eq_some_iff.mp hm'
      cases e2
      obtain ⟨w, hw, a, rfl, ro⟩ := R1.sl _ _ he
      have hr : σ[i]? = some (some v) := r1
      rw [hr] at hw; cases hw
      obtain ⟨u, hu, hk, rd⟩ := ro.lock hd
      refine .inr ⟨a, u, rfl, hu, hk, fun ob => ?_⟩
      have nk : ∀ kvs, o ≠ .kx kvs := fun kvs z => by rw [z] at hd; cases hd
      have st := RO.stay ro (.frz ob u) (lmu_of fun _ z => nomatch z) nk
      have rd' := rd ob ι1 st ⟨[], by simp⟩
      obtain ⟨R2, P2⟩ := R1.lockSlot he hr ro rd' nk
      exact q _ _ ι1 R2 (P1.trans P2) rd' trivial
    · cases hm'
theorem ge_box {X : Cx} {ex : Expr} {m : M R} (h : GE X ex m) : GE X ex (mBox m) := PE.imp h fun σ H Q q => by
  obtain ⟨ι, e, S, r, e', S', R, hm, q⟩ := q
  obtain ⟨x, e1, S1, h1, hm⟩ := bnd_eq hm
  refine ⟨ι, e, S, x, e1, S1, R, h1, fun v H1 ι1 R1 P1 r1 f1 => ?_⟩
  cases x with
  | new o =>
    cases hm
    obtain ⟨a, rfl, ro, n1, n2⟩ := r1
    obtain ⟨a', ea, f1⟩ := f1
    cases ea
    obtain ⟨R2, P2⟩ := R1.box P1 ro n1 n2 f1
    refine q _ H1 (ι1 ++ [a]) R2 P2 (.ref ?_) trivial
    rw [← R1.ilen]
    simp
  | _ => cases hm

/-! ### argument lists, displays -/
def mNil : M (List R) := pur []
def mCons (a : M R) (b : M (List R)) : M (List R) := bnd a fun x => bnd b fun xs => pur (x :: xs)
def dsOf : List R → Option (List D)
  | [] => some []
  | .d x :: rs => (dsOf rs).map (x :: ·)
  | _ :: _ => none
def dispOf (f : List D → R) (rs : List R) : M R := fun e S => match dsOf rs with
  | some ds => if ds.length ≤ 1000 then some (f ds, e, S) else none
  | none => none
def mTup (ms : M (List R)) : M R := bnd ms (dispOf fun ds => .d (.tup ds))
def mLst (ms : M (List R)) : M R := bnd ms (dispOf fun ds => .new (.lst ds))
theorem dispOf_eq {f : List D → R} {rs : List R} {e : En} {S : Sto} {z : R × En × Sto} (h : dispOf f rs e S = some z) : ∃ ds, dsOf rs = some ds ∧ ds.length ≤ 1000 ∧ z = (f ds, e, S) := by
  unfold dispOf at h
  split at h
  · split at h
    · exact ⟨_, by assumption, by assumption, (Option.some.inj h).symm⟩
    · cases h
  · cases h
theorem RRs.ds {K : PySem.W.Frag} {H : Hp} {ι : List Addr} {σ : SV} {e : En} {vs : List V} {rs : List R} (h : RRs K H ι σ e vs rs) : ∀ {ds : List D}, dsOf rs = some ds → RDs K H ι vs ds := by
  induction h with
  | nil => intro ds e; cases e; exact .nil
  | cons h1 _ ih =>
    rename_i v vs r rs _
    intro ds e
    cases r with
    | d x =>
      obtain ⟨es, e1, e2⟩ := Option.map_eq_some_iff.mp (show (dsOf rs).map (x :: ·) = some ds from e)
      subst e2
      exact .cons h1 (ih e1)
    | _ => cases e
section
variable {X : Cx} {ex : Expr} {es : List Expr} {ma : M R} {ms : M (List R)} {pos : Pos}
theorem ga_nil : GA X [] mNil := PA.imp pa_nil fun σ H Q q => by
  obtain ⟨ι, e, S, r, e', S', R, hm, q⟩ := q
  cases hm
  exact q [] H ι R .refl .nil
theorem ga_cons (ha : GE X ex ma) (hr : GA X es ms) (hs : starEach (ex :: es) X.env = (false, eval ex X.env) :: starEach es X.env := by rfl) : GA X (ex :: es) (mCons ma ms) := PA.imp (pa_cons ha hr hs) fun σ H Q q => by
  obtain ⟨ι, e, S, r, e', S', R, hm, q⟩ := q
  obtain ⟨x, e1, S1, h1, hm⟩ := bnd_eq hm
  obtain ⟨xs, e2, S2, h2, hm⟩ := bnd_eq hm
  cases hm
  exact ⟨ι, e, S, x, e1, S1, R, h1, fun v H1 ι1 R1 P1 r1 _ => ⟨ι1, e1, S1, xs, _, _, R1, h2, fun vs H2 ι2 R2 P2 r2 => q _ H2 ι2 R2 (P1.trans P2) (.cons (r1.post P2) r2)⟩⟩
theorem ge_tup {k} (h : GA X es ms) : GE X (.Tuple es k pos) (mTup ms) := PE.imp (pe_tup h) fun σ H Q q => by
  obtain ⟨ι, e, S, r, e', S', R, hm, q⟩ := q
  obtain ⟨rs, e1, S1, h1, hm⟩ := bnd_eq hm
  refine ⟨ι, e, S, rs, e1, S1, R, h1, fun vs H1 ι1 R1 P1 r1 => ?_⟩
  obtain ⟨ds, hds, hn, hz⟩ := dispOf_eq hm
  cases hz
  have rd := r1.ds hds
  refine ⟨by rw [rd.length]; exact Nat.le_of_lt (small1000 hn), fun p hp => ?_⟩
  obtain ⟨R2, P2, _⟩ := R1.new (u := .tup vs) hp
  exact q _ _ ι1 R2 (P1.trans P2) (.tup (.inl (.inl upd_same)) (RDs.mono P2.stay P2.pre _ _ rd)) trivial
theorem ge_lst (h : GA X es ms) : GE X (.List es pos) (mLst ms) := PE.imp (pe_lst h) fun σ H Q q => by
  obtain ⟨ι, e, S, r, e', S', R, hm, q⟩ := q
  obtain ⟨rs, e1, S1, h1, hm⟩ := bnd_eq hm
  refine ⟨ι, e, S, rs, e1, S1, R, h1, fun vs H1 ι1 R1 P1 r1 => ?_⟩
  obtain ⟨ds, hds, hn, hz⟩ := dispOf_eq hm
  cases hz
  have rd := r1.ds hds
  refine ⟨by rw [rd.length]; exact Nat.le_of_lt (small1000 hn), fun p hp => ?_⟩
  obtain ⟨R2, P2, n1, n2⟩ := R1.new (u := .lst vs) hp
  exact q _ _ ι1 R2 (P1.trans P2) ⟨p, rfl, ⟨_, upd_same, RDs.mono P2.stay P2.pre _ _ rd⟩, n1, n2⟩ ⟨p, rfl, P1.back hp⟩
end

/-! ### own defs -/
/-- what a def hands back -/
inductive Rt where
  | d (x : D) | new (o : O)
def Rt.r : Rt → R
  | .d x => .d x
  | .new o => .new o
abbrev Fn := List Sl → Sto → Option (Rt × Sto)
/-- an argument as its callee sees it -/
def toArg (r : R) (e : En) : Option Sl := match r with
  | .d x => some (.d x)
  | .new o => some (.brw o)
  | .brw o => some (.brw o)
  | .lm i cs => some (.lm i cs)
  | .loc i => match e[i]? with
    | some (some (.own o)) => some (.brw o)
    | _ => none
def toArgs : List R → En → Option (List Sl)
  | [], _ => some []
  | r :: rs, e => match toArg r e, toArgs rs e with
    | some s, some ss => some (s :: ss)
    | _, _ => none
/-- the store alone -/
structure RelS (K : PySem.W.Frag) (H : Hp) (ι : List Addr) (S : Sto) : Prop where
  ilen : ι.length = S.length
  st : ∀ (n : Nat) (o : O) (a : Addr), S[n]? = some o → ι[n]? = some a → RO K H ι a o
  nd : ι.Nodup
def Sl.isOwn : Sl → Prop
  | .own _ => True
  | _ => False
inductive RSls (K : PySem.W.Frag) (H : Hp) (ι : List Addr) : List V → List Sl → Prop
  | nil : RSls K H ι [] []
  | cons {v vs s ss} : RSl K H ι v s → (∀ a, v = .ref a → s.isObj → a ∉ ι) → ¬ s.isOwn → RSls K H ι vs ss → RSls K H ι (v :: vs) (s :: ss)
structure PostC (H : Hp) (ι : List Addr) (H' : Hp) (ι' : List Addr) : Prop where
  pre : ∃ l, ι' = ι ++ l
  stay : Stay H H'
  dom : ∀ a o, H a = some o → ∃ o', H' a = some o'
  keep : ∀ a o, H a = some o → a ∉ ι → H' a = some o ∧ a ∉ ι'
def RRt (K : PySem.W.Frag) (H : Hp) (H' : Hp) (ι' : List Addr) (v : V) : Rt → Prop
  | .d x => RD K H' ι' v x
  | .new o => ∃ a, v = .ref a ∧ RO K H' ι' a o ∧ a ∉ ι' ∧ H a = none
def spG (K : PySem.W.Frag) (n : Nat) (m : Fn) : Sp := fun vs H Q _ => vs.length = n ∧ ∃ ι sls S r S', RelS K H ι S ∧ RSls K H ι vs sls ∧ m sls S = some (r, S') ∧
  ∀ v H' ι', RelS K H' ι' S' → PostC H ι H' ι' → RRt K H H' ι' v r → Q v H'
def mCall (n : Nat) (f : Fn) (ms : M (List R)) : M R := bnd ms fun rs => if rs.length = n then (fun e S => match toArgs rs e with
  | some sls => (f sls S).map fun (r, S') => (r.r, e, S')
  | none => none) else stk
/-- a def of the text and what it computes -/
structure GF (P : Program) (w : World) (K : PySem.W.Frag) (mg : Str → Option Value) (base : Heap) (k : Nat) (x : Str) (n : Nat) (m : Fn) : Prop where
  ex : ∃ f fd ps, FnG P w K mg base k f fd ps (spG K n m) ∧ mg x = some (.ref f) ∧ PySem.W.keepIn K (.ref f) = true ∧ Binds K fd ps []
section
variable {K : PySem.W.Frag} {H H' : Hp} {ι ι' : List Addr} {σ : SV} {e : En} {S S' : Sto} {v : V} {vs : List V} {r : R} {rs : List R}
theorem Rel.arg (R : Rel K H ι σ e S) (hr : RR K H ι σ e v r) {s : Sl} (h : toArg r e = some s) : RSl K H ι v s ∧ (∀ a, v = .ref a → s.isObj → a ∉ ι) ∧ ¬ s.isOwn := by
  cases r with
  | d x => cases h; exact ⟨hr, fun _ _ z => z.elim, fun z => z⟩
  | new o => cases h; obtain ⟨a, rfl, ro, n1, _⟩ := hr; exact ⟨⟨a, rfl, ro⟩, fun _ e _ => by cases e; exact n1, fun z => z⟩
  | brw o => cases h; obtain ⟨a, rfl, ro, n1, _⟩ := hr; exact ⟨⟨a, rfl, ro⟩, fun _ e _ => by cases e; exact n1, fun z => z⟩
  | lm i cs => cases h; exact ⟨LmR.mono hr (.refl _) ⟨[], by simp⟩ fun _ _ _ _ _ => trivial, fun _ _ z => z.elim, fun z => z⟩
  | loc i =>
    have h' : (match e[i]? with
      | some (some (.own o)) => some (Sl.brw o)
      | _ => none) = some s := h
    split at h'
    · cases h'
      rename_i o he
      obtain ⟨w, hw, a, rfl, ro⟩ := R.sl _ _ he
      have hr' : σ[i]? = some (some v) := hr
      rw [hr'] at hw; cases hw
      exact ⟨⟨a, rfl, ro⟩, fun _ e _ => by cases e; exact (R.own _ _ _ he hr').1, fun z => z⟩
    · cases h'
theorem Rel.args (R : Rel K H ι σ e S) (hr : RRs K H ι σ e vs rs) : ∀ {ss : List Sl}, toArgs rs e = some ss → RSls K H ι vs ss := by
  induction hr with
  | nil => intro ss h; cases h; exact .nil
  | cons h1 _ ih =>
    rename_i v vs r rs _
    intro ss h
    have h' : (match toArg r e, toArgs rs e with
      | some s, some ss => some (s :: ss)
      | _, _ => none) = some ss := h
    split at h'
    · cases h'
      rename_i q1 q2
      obtain ⟨a, b, c⟩ := R.arg h1 q1
      exact .cons a b c (ih q2)
    · cases h'
theorem Rel.s (R : Rel K H ι σ e S) : RelS K H ι S := ⟨R.ilen, R.st, R.nd⟩
/-- behind a call -/
theorem Rel.called (R : Rel K H ι σ e S) (R' : RelS K H' ι' S') (P : PostC H ι H' ι') : Rel K H' ι' σ e S' ∧ Post H ι σ e H' ι' σ e := by
  have kp : ∀ (i : Nat) (s : Sl) (b : Addr), e[i]? = some (some s) → s.isObj → σ[i]? = some (some (.ref b)) → ∀ u, H b = some u → H' b = some u ∧ b ∉ ι' := fun i s b h1 h2 h3 u hu => P.keep b u hu (R.slot_ne h1 h2 h3)
  refine ⟨⟨R.len, fun i s he => ?_, R'.ilen, R'.st, R'.nd, fun i o a h1 h2 => ?_, fun i o a h1 h2 => ?_⟩, ⟨P.pre, P.stay, P.dom, fun b x h1 h2 h3 => ?_⟩⟩
  · obtain ⟨w, hw, hs⟩ := R.sl i s he
    exact ⟨w, hw, hs.mono P.stay P.pre fun a u ha ho hu => by subst ha; exact (kp i s a he ho hw u hu).1⟩
  · obtain ⟨w, hw, hs⟩ := R.sl i _ h1
    rw [h2] at hw; cases hw
    obtain ⟨b, _, u, e1, _, hu, _⟩ := RSl.there hs trivial
    cases e1
    exact ⟨(kp i _ _ h1 trivial h2 u hu).2, (R.own i o a h1 h2).2⟩
  · obtain ⟨w, hw, hs⟩ := R.sl i _ h1
    rw [h2] at hw; cases hw
    obtain ⟨b, _, u, e1, _, hu, _⟩ := RSl.there hs trivial
    cases e1
    exact (kp i _ _ h1 trivial h2 u hu).2
  · obtain ⟨q1, q2⟩ := P.keep b x h1 h2
    exact ⟨q1, q2, h3, fun h => h⟩
theorem Rel.ne_none (R : Rel K H ι σ e S) {a : Addr} (h : H a = none) : ¬ Obj σ e a := fun ⟨i, s, h1, h2, h3⟩ => by
  obtain ⟨w, hw, hs⟩ := R.sl i s h1
  rw [h3] at hw; cases hw
  obtain ⟨b, _, u, e1, _, hu, _⟩ := RSl.there hs h2
  cases e1
  rw [h] at hu; cases hu
end
theorem RRs.length {K : PySem.W.Frag} {H : Hp} {ι : List Addr} {σ : SV} {e : En} {vs : List V} {rs : List R} (h : RRs K H ι σ e vs rs) : vs.length = rs.length := by
  induction h with
  | nil => rfl
  | cons _ _ ih => simp [ih]
theorem tG_call {K : PySem.W.Frag} {f : Fn} {ms : M (List R)} {σ : SV} {H : Hp} {Q : VK} {n : Nat} {E : XK} (q : tG K (bnd ms fun rs => if rs.length = n then (fun e S => match toArgs rs e with
  | some sls => (f sls S).map fun (r, S') => (r.r, e, S')
  | none => none) else stk) σ H Q) : tGA K ms σ H fun vs H1 => spG K n f vs H1 Q E := by
  obtain ⟨ι, e, S, r, e', S', R, hm, q⟩ := q
  obtain ⟨rs, e1, S1, h1, hm⟩ := bnd_eq hm
  refine ⟨ι, e, S, rs, e1, S1, R, h1, fun vs H1 ι1 R1 P1 r1 => ?_⟩
  dsimp only at hm
  split at hm
  · rename_i hn
    have hm' : (match toArgs rs e1 with
      | some sls => (f sls S1).map fun (r, S') => (r.r, e1, S')
      | none => none) = some (r, e', S') := hm
    split at hm'
    · rename_i sls hs
      obtain ⟨⟨rt, S2⟩, h2, e2⟩ := Option.map_eq_some_iff.mp hm'
      cases e2
      refine ⟨by rw [r1.length]; exact hn, ι1, sls, S1, rt, S', R1.s, R1.args r1 hs, h2, fun v H2 ι2 R2 P2 r2 => ?_⟩
      obtain ⟨R3, P3⟩ := R1.called R2 P2
      refine q v H2 ι2 R3 (P1.trans P3) ?_ ?_
      · cases rt with
        | d x => exact r2
        | new o =>
          obtain ⟨a, rfl, ro, n1, n2⟩ := r2
          exact ⟨a, rfl, ro, n1, R1.ne_none n2⟩
      · cases rt with
        | d x => trivial
        | new o =>
          obtain ⟨a, rfl, ro, n1, n2⟩ := r2
          exact ⟨a, rfl, P1.back n2⟩
    · cases hm'
  · cases hm
end G

set_option Elab.async false
set_option linter.all false
set_option maxRecDepth 1000000
set_option maxHeartbeats 2000000
/-! G4: statements, targets, bodies of defs. -/
namespace G
variable [Wld]
open PySem PySem.Spec PyProof.Rows L2

section
variable {X : Cx} {k : Nat} {x : Str} {n : Nat} {f : Fn} {ex : Expr} {es : List Expr} {ms : M (List R)} {p pos : Pos}
theorem ge_call (F : GF X.prog X.w X.K X.mg X.base k x n f) (hr : Room k X.A) (hgd : X.A.guards = some []) (hg : Gl X x) (ha : GA X (ex :: es) ms) (hdb : (x == ("__debug__" : Str)) = false := by decide)
    (he : starEach (ex :: es) X.env = (false, eval ex X.env) :: starEach es X.env := by rfl) (hpl : (backTo pos (starEach es X.env)).any (·.1) = false := by rfl) :
    GE X (.Call (.Name x p) (ex :: es) [] pos) (mCall n f ms) := by
  obtain ⟨fa, fd, ps, ok, hm, hk, hb⟩ := F.ex
  refine PE.imp (pe_callG ok hr hgd hg hm hk hb .nil pass0 ha hdb he hpl) fun σ H Q q => ?_
  have h : tGA X.K ms σ H fun vs H1 => spG X.K n f vs H1 Q E0 := tG_call q
  unfold tCall
  simpa using h
end

/-! ### statements -/
inductive Fl where
  | nx | bk | ct | rt (r : Rt)
/-- what is handed back, by what stood at the start -/
def RRr (K : PySem.W.Frag) (H : Hp) (ι : List Addr) (σ : SV) (e : En) (H' : Hp) (ι' : List Addr) (v : V) : Rt → Prop
  | .d x => RD K H' ι' v x
  | .new o => ∃ a, v = .ref a ∧ RO K H' ι' a o ∧ a ∉ ι' ∧ ∀ u, H a = some u → a ∉ ι → ¬ Own σ e a → False
def tGS (K : PySem.W.Frag) (m : M Fl) : TS := fun D σ H => ∃ ι e S fl e' S', Rel K H ι σ e S ∧ m e S = some (fl, e', S') ∧ match fl with
  | .nx => ∀ σ' H' ι', Rel K H' ι' σ' e' S' → Post H ι σ e H' ι' σ' e' → D.nx σ' H'
  | .bk => ∀ σ' H' ι', Rel K H' ι' σ' e' S' → Post H ι σ e H' ι' σ' e' → D.bk σ' H'
  | .ct => ∀ σ' H' ι', Rel K H' ι' σ' e' S' → Post H ι σ e H' ι' σ' e' → D.ct σ' H'
  | .rt r => ∀ v σ' H' ι', Rel K H' ι' σ' e' S' → Post H ι σ e H' ι' σ' e' → RRr K H ι σ e H' ι' v r → D.rt v H'
abbrev GS (X : Cx) (st : Stmt) (m : M Fl) : Prop := PS X st (tGS X.K m)
abbrev GSs (X : Cx) (st : List Stmt) (m : M Fl) : Prop := PSs X st (tGS X.K m)
/-- one behind the other -/
def mSeq (a b : M Fl) : M Fl := bnd a fun fl => match fl with
  | .nx => b
  | z => pur z
def mSkip : M Fl := pur .nx
theorem RRr.back {K : PySem.W.Frag} {H H1 H' : Hp} {ι ι1 ι' : List Addr} {σ σ1 : SV} {e e1 : En} {v : V} {r : Rt} (h : RRr K H1 ι1 σ1 e1 H' ι' v r) (P : Post H ι σ e H1 ι1 σ1 e1) : RRr K H ι σ e H' ι' v r := by
  cases r with
  | d x => exact h
  | new o =>
    obtain ⟨a, rfl, ro, n, f⟩ := h
    exact ⟨a, rfl, ro, n, fun u h1 h2 h3 => by
      obtain ⟨q1, q2, q3, _⟩ := P.keep a u h1 h2 h3
      exact f u q1 q2 q3⟩
theorem tGS_seq {K : PySem.W.Frag} {a b : M Fl} {D : Ends} {σ : SV} {H : Hp} (h : tGS K (mSeq a b) D σ H) : tSeq (tGS K a) (tGS K b) D σ H := by
  obtain ⟨ι, e, S, fl, e', S', R, hm, q⟩ := h
  obtain ⟨f1, e1, S1, h1, hm⟩ := bnd_eq hm
  refine ⟨ι, e, S, f1, e1, S1, R, h1, ?_⟩
  cases f1 with
  | nx =>
    intro σ1 H1 ι1 R1 P1
    refine ⟨ι1, e1, S1, fl, e', S', R1, hm, ?_⟩
    cases fl with
    | nx => exact fun σ2 H2 ι2 R2 P2 => q σ2 H2 ι2 R2 (P1.trans P2)
    | bk => exact fun σ2 H2 ι2 R2 P2 => q σ2 H2 ι2 R2 (P1.trans P2)
    | ct => exact fun σ2 H2 ι2 R2 P2 => q σ2 H2 ι2 R2 (P1.trans P2)
    | rt r => exact fun v σ2 H2 ι2 R2 P2 r2 => q v σ2 H2 ι2 R2 (P1.trans P2) (r2.back P1)
  | bk => cases hm; exact q
  | ct => cases hm; exact q
  | rt r => cases hm; exact q
section
variable {X : Cx} {st : Stmt} {rest : List Stmt} {a b : M Fl} {ex : Expr} {m : M R} {mt : M Bool} {pos : Pos}
theorem gss_nil : GSs X [] mSkip := PSs.imp pss_nil fun D σ H q => by
  obtain ⟨ι, e, S, fl, e', S', R, hm, q⟩ := q
  cases hm
  exact q σ H ι R .refl
theorem gss_cons (h1 : GS X st a) (h2 : GSs X rest b) : GSs X (st :: rest) (mSeq a b) := PSs.imp (pss_cons h1 h2) fun D σ H q => tGS_seq q
theorem gss_one (h1 : GS X st a) : GSs X [st] a := pss_one h1
def mDrop (m : M R) : M Fl := bnd m fun _ => pur .nx
theorem gs_expr (h : GE X ex m) (hs : swapsWith ex none pos.line X.env = pure false := by rfl) : GS X (.Expr ex pos) (mDrop m) := PS.imp (ps_expr h hs) fun D σ H q => by
  obtain ⟨ι, e, S, fl, e', S', R, hm, q⟩ := q
  obtain ⟨x, e1, S1, h1, hm⟩ := bnd_eq hm
  cases hm
  exact ⟨ι, e, S, x, _, _, R, h1, fun v H1 ι1 R1 P1 _ _ => q σ H1 ι1 R1 P1⟩
def toRt (r : R) : M Fl := fun e S => match r with
  | .d x => some (.rt (.d x), e, S)
  | .new o => some (.rt (.new o), e, S)
  | .loc i => match e[i]? with
    | some (some (.own o)) => some (.rt (.new o), e, S)
    | _ => none
  | .brw _ => none
  | .lm _ _ => none
theorem toRt_loc {i : Nat} {e : En} {S : Sto} {z} (h : toRt (.loc i) e S = some z) : ∃ o, e[i]? = some (some (.own o)) ∧ z = (.rt (.new o), e, S) := by
  have h' : (match e[i]? with
      | some (some (.own o)) => some (Fl.rt (.new o), e, S)
      | _ => none) = some z := h
  split at h'
  · exact ⟨_, by assumption, (Option.some.inj h').symm⟩
  · cases h'
def mRet (m : M R) : M Fl := bnd m toRt
theorem gs_ret (h : GE X ex m) : GS X (.Return (some ex) pos) (mRet m) := PS.imp (ps_ret h) fun D σ H q => by
  obtain ⟨ι, e, S, fl, e', S', R, hm, q⟩ := q
  obtain ⟨x, e1, S1, h1, hm⟩ := bnd_eq hm
  refine ⟨ι, e, S, x, e1, S1, R, h1, fun v H1 ι1 R1 P1 r1 f1 => ?_⟩
  cases x with
  | d x => cases hm; exact q v σ H1 ι1 R1 P1 r1
  | brw o => cases hm
  | lm i cs => cases hm
  | new o =>
    cases hm
    obtain ⟨a, rfl, ro, n1, n2⟩ := r1
    obtain ⟨a', ea, f1⟩ := f1
    cases ea
    exact q _ σ H1 ι1 R1 P1 ⟨a, rfl, ro, n1, fun u hu _ _ => by rw [f1] at hu; cases hu⟩
  | loc i =>
    obtain ⟨o, he, hz⟩ := toRt_loc hm
    cases hz
    obtain ⟨w, hw, a, rfl, ro⟩ := R1.sl _ _ he
    have hr : σ[i]? = some (some v) := r1
    rw [hr] at hw; cases hw
    refine q _ σ H1 ι1 R1 P1 ⟨a, rfl, ro, (R1.own _ _ _ he hr).1, fun u h1 h2 h3 => ?_⟩
    obtain ⟨_, _, n, _⟩ := P1.keep a u h1 h2 h3
    exact n ⟨i, _, he, hr⟩
def mRetN : M Fl := pur (.rt (.d .non))
def mIfS (c : M Bool) (a b : M Fl) : M Fl := bnd c fun x => if x = true then a else b
theorem gs_if {c : Expr} {s1 s2 : List Stmt} (hc : GT X c mt) (h1 : GSs X s1 a) (h2 : GSs X s2 b) : GS X (.If c s1 s2 pos) (mIfS mt a b) := PS.imp (ps_if hc h1 h2) fun D σ H q => by
  obtain ⟨ι, e, S, fl, e', S', R, hm, q⟩ := q
  obtain ⟨x, e1, S1, h1, hm⟩ := bnd_eq hm
  refine ⟨ι, e, S, x, e1, S1, R, h1, fun H1 ι1 R1 P1 => ?_⟩
  have go : tGS X.K (if x = true then a else b) D σ H1 := by
    refine ⟨ι1, e1, S1, fl, e', S', R1, hm, ?_⟩
    cases fl with
    | nx => exact fun σ2 H2 ι2 R2 P2 => q σ2 H2 ι2 R2 (P1.trans P2)
    | bk => exact fun σ2 H2 ι2 R2 P2 => q σ2 H2 ι2 R2 (P1.trans P2)
    | ct => exact fun σ2 H2 ι2 R2 P2 => q σ2 H2 ι2 R2 (P1.trans P2)
    | rt r => exact fun v σ2 H2 ι2 R2 P2 r2 => q v σ2 H2 ι2 R2 (P1.trans P2) (r2.back P1)
  cases x with
  | true => exact go
  | false => exact go
end

/-! ### names stored -/
/-- what a slot takes -/
def toSl : R → Option Sl
  | .d x => some (.d x)
  | .new o => some (.own o)
  | _ => none
def setS (i : Nat) (r : R) : M Fl := fun e S => match toSl r with
  | some s => if i < e.length then some (.nx, e.set i (some s), S) else none
  | none => none
def mSet (i : Nat) (m : M R) : M Fl := bnd m (setS i)
section
variable {K : PySem.W.Frag} {H H0 : Hp} {ι ι0 : List Addr} {σ σ0 : SV} {e e0 : En} {S : Sto} {v : V} {r : R}
theorem Rel.setSl {i : Nat} {s : Sl} (R : Rel K H ι σ e S) (hi : i < e.length) (rs : RSl K H ι v s) (hb : ∀ o, s ≠ .brw o) (hn : ∀ a, v = .ref a → s.isObj → a ∉ ι ∧ ¬ Obj σ e a) :
    Rel K H ι (σ.set i (some v)) (e.set i (some s)) S := by
  have hσ : i < σ.length := by rw [R.len]; exact hi
  have e_i : (e.set i (some s))[i]? = some (some s) := List.getElem?_set_self hi
  have e_j : ∀ j, i ≠ j → (e.set i (some s))[j]? = e[j]? := fun j h => List.getElem?_set_ne h
  have s_i : (σ.set i (some v))[i]? = some (some v) := List.getElem?_set_self hσ
  have s_j : ∀ j, i ≠ j → (σ.set i (some v))[j]? = σ[j]? := fun j h => List.getElem?_set_ne h
  refine ⟨by simp [R.len], fun j t hj => ?_, R.ilen, R.st, R.nd, fun j o a h1 h2 => ?_, fun j o a h1 h2 => ?_⟩
  · by_cases hij : i = j
    · subst hij
      rw [e_i] at hj; cases hj
      exact ⟨v, s_i, rs⟩
    · rw [e_j _ hij] at hj
      rw [s_j _ hij]
      exact R.sl j t hj
  · by_cases hij : i = j
    · subst hij
      rw [e_i] at h1; cases h1
      rw [s_i] at h2; cases h2
      obtain ⟨q1, q2⟩ := hn a rfl trivial
      refine ⟨q1, fun k t b hk h3 h4 h5 => ?_⟩
      rw [e_j _ (Ne.symm hk)] at h3
      rw [s_j _ (Ne.symm hk)] at h5
      exact fun z => q2 ⟨k, t, h3, h4, z ▸ h5⟩
    · rw [e_j _ hij] at h1
      rw [s_j _ hij] at h2
      obtain ⟨q1, q2⟩ := R.own j o a h1 h2
      refine ⟨q1, fun k t b hk h3 h4 h5 => ?_⟩
      by_cases hik : i = k
      · subst hik
        rw [e_i] at h3; cases h3
        rw [s_i] at h5; cases h5
        exact fun z => (hn b rfl h4).2 ⟨j, _, h1, trivial, z ▸ h2⟩
      · rw [e_j _ hik] at h3
        rw [s_j _ hik] at h5
        exact q2 k t b hk h3 h4 h5
  · by_cases hij : i = j
    · subst hij
      rw [e_i] at h1; cases h1
      exact (hb o rfl).elim
    · rw [e_j _ hij] at h1
      rw [s_j _ hij] at h2
      exact R.brw j o a h1 h2
theorem Post.setSl {i : Nat} {s : Sl} (P : Post H0 ι0 σ0 e0 H ι σ e) (hi : i < e.length) (hσ : σ.length = e.length) (f : ∀ a, v = .ref a → s.isObj → H0 a = none) : Post H0 ι0 σ0 e0 H ι (σ.set i (some v)) (e.set i (some s)) := by
  have e_i : (e.set i (some s))[i]? = some (some s) := List.getElem?_set_self hi
  have e_j : ∀ j, i ≠ j → (e.set i (some s))[j]? = e[j]? := fun j h => List.getElem?_set_ne h
  have s_i : (σ.set i (some v))[i]? = some (some v) := List.getElem?_set_self (by rw [hσ]; exact hi)
  have s_j : ∀ j, i ≠ j → (σ.set i (some v))[j]? = σ[j]? := fun j h => List.getElem?_set_ne h
  refine ⟨P.pre, P.stay, P.dom, fun b x h1 h2 h3 => ?_⟩
  obtain ⟨q1, q2, q3, q4⟩ := P.keep b x h1 h2 h3
  refine ⟨q1, q2, ?_, fun h => ?_⟩
  · rintro ⟨j, o, h4, h5⟩
    by_cases hij : i = j
    · subst hij
      rw [e_i] at h4; cases h4
      rw [s_i] at h5; cases h5
      rw [f b rfl trivial] at h1; cases h1
    · rw [e_j _ hij] at h4
      rw [s_j _ hij] at h5
      exact q3 ⟨j, o, h4, h5⟩
  · rintro ⟨j, t, h4, h6, h5⟩
    by_cases hij : i = j
    · subst hij
      rw [e_i] at h4; cases h4
      rw [s_i] at h5; cases h5
      rw [f b rfl h6] at h1; cases h1
    · rw [e_j _ hij] at h4
      rw [s_j _ hij] at h5
      exact q4 h ⟨j, t, h4, h6, h5⟩
theorem setS_eq {i : Nat} {r : R} {e : En} {S : Sto} {z} (h : setS i r e S = some z) : ∃ s, toSl r = some s ∧ i < e.length ∧ z = (.nx, e.set i (some s), S) := by
  unfold setS at h
  split at h
  · split at h
    · exact ⟨_, by assumption, by assumption, (Option.some.inj h).symm⟩
    · cases h
  · cases h
/-- a result put in a slot -/
theorem Rel.put {i : Nat} {s : Sl} (R : Rel K H ι σ e S) (P : Post H0 ι0 σ0 e0 H ι σ e) (hr : RR K H ι σ e v r) (f : Fresh H0 v r) (hs : toSl r = some s) (hi : i < e.length) :
    Rel K H ι (σ.set i (some v)) (e.set i (some s)) S ∧ Post H0 ι0 σ0 e0 H ι (σ.set i (some v)) (e.set i (some s)) := by
  cases r with
  | d x =>
    cases hs
    exact ⟨R.setSl hi hr (fun _ z => nomatch z) fun _ _ z => z.elim, P.setSl hi R.len fun _ _ z => z.elim⟩
  | new o =>
    cases hs
    obtain ⟨a, rfl, ro, n1, n2⟩ := hr
    obtain ⟨a', ea, f⟩ := f
    cases ea
    exact ⟨R.setSl hi ⟨a, rfl, ro⟩ (fun _ z => nomatch z) fun _ e _ => by cases e; exact ⟨n1, n2⟩, P.setSl hi R.len fun _ e _ => by cases e; exact f⟩
  | _ => cases hs
end
section
variable {X : Cx} {ex : Expr} {m : M R} {pos pos' : Pos}
theorem gs_set {i : Nat} {x : Str} (hN : X.N.Nodup) (hi : X.N[i]? = some x) (hx : Loc X.env.scope x) (h : GE X ex m) (hs : swapsWith ex (some (.Name x pos')) pos.line X.env = pure false := by rfl) (hf : X.fn x = true ∨ X.env.scope.names.lookup x = some .local := by first | exact .inl rfl | exact .inr rfl | assumption) :
    GS X (.Assign [.Name x pos'] ex pos) (mSet i m) := PS.imp (ps_set hN hi hx h hs hf) fun D σ H q => by
  obtain ⟨ι, e, S, fl, e', S', R, hm, q⟩ := q
  obtain ⟨r, e1, S1, h1, hm⟩ := bnd_eq hm
  obtain ⟨s, hsl, hil, hz⟩ := setS_eq hm
  cases hz
  refine ⟨ι, e, S, r, e1, _, R, h1, fun v H1 ι1 R1 P1 r1 f1 => ?_⟩
  obtain ⟨R2, P2⟩ := R1.put P1 r1 f1 hsl hil
  exact q _ H1 ι1 R2 P2
end

/-! ### bodies of defs -/
def runF (nl : Nat) (body : M Fl) : Fn := fun sls S => match body (sls.map some ++ List.replicate nl none) S with
  | some (.rt r, _, S') => some (r, S')
  | some (.nx, _, S') => some (.d .non, S')
  | _ => none
theorem RSls.length {K : PySem.W.Frag} {H : Hp} {ι : List Addr} {vs : List V} {ss : List Sl} (h : RSls K H ι vs ss) : vs.length = ss.length := by
  induction h with
  | nil => rfl
  | cons _ _ _ _ ih => simp [ih]
theorem RSls.get {K : PySem.W.Frag} {H : Hp} {ι : List Addr} {vs : List V} {ss : List Sl} (h : RSls K H ι vs ss) : ∀ {i : Nat} {s : Sl}, ss[i]? = some s → ∃ v, vs[i]? = some v ∧ RSl K H ι v s ∧ (∀ a, v = .ref a → s.isObj → a ∉ ι) ∧ ¬ s.isOwn := by
  induction h with
  | nil => intro i s e; simp at e
  | cons h1 h2 h3 _ ih =>
    intro i s e
    cases i with
    | zero => simp at e; subst e; exact ⟨_, rfl, h1, h2, h3⟩
    | succ i => exact ih (by simpa using e)
theorem at_start {sls : List Sl} {nl i : Nat} {s : Sl} (h : (sls.map some ++ List.replicate nl none)[i]? = some (some s)) : sls[i]? = some s := by
  by_cases hi : i < sls.length
  · rw [List.getElem?_append_left (by simpa using hi), List.getElem?_map] at h
    cases q : sls[i]? with
    | none => rw [q] at h; cases h
    | some t => rw [q] at h; simpa using h
  · rw [List.getElem?_append_right (by simpa using hi)] at h
    rw [List.getElem?_replicate] at h
    split at h <;> cases h
theorem RelS.start {K : PySem.W.Frag} {H : Hp} {ι : List Addr} {vs : List V} {sls : List Sl} {S : Sto} {N : List Str} (R : RelS K H ι S) (hs : RSls K H ι vs sls) : Rel K H ι (L2.start N vs) (sls.map some ++ List.replicate (N.length - sls.length) none) S := by
  have hl := hs.length
  have hv : ∀ {i : Nat} {v : V}, vs[i]? = some v → (L2.start N vs)[i]? = some (some v) := fun {i v} h => by
    unfold L2.start
    rw [List.getElem?_append_left (by simpa using (List.getElem?_eq_some_iff.mp h).1), List.getElem?_map, h]
    rfl
  refine ⟨by unfold L2.start; simp [hl], fun i s he => ?_, R.ilen, R.st, R.nd, fun i o a h1 h2 => ?_, fun i o a h1 h2 => ?_⟩
  · obtain ⟨v, e1, h1, _⟩ := hs.get (at_start he)
    exact ⟨v, hv e1, h1⟩
  · obtain ⟨v, e1, _, _, h3⟩ := hs.get (at_start h1)
    exact (h3 trivial).elim
  · obtain ⟨v, e1, _, h3, _⟩ := hs.get (at_start h1)
    rw [hv e1] at h2; cases h2
    exact h3 a rfl trivial
theorem no_own {K : PySem.W.Frag} {H : Hp} {ι : List Addr} {vs : List V} {sls : List Sl} {nl : Nat} {σ : SV} (hs : RSls K H ι vs sls) (a : Addr) : ¬ Own σ (sls.map some ++ List.replicate nl none) a := fun ⟨i, o, h1, _⟩ => by
  obtain ⟨v, e1, _, _, h3⟩ := hs.get (at_start h1)
  exact h3 trivial
/-- a def's promise by its body -/
theorem fn_okC {P : Program} {w : World} {K : PySem.W.Frag} {mg : Str → Option Value} {base : Heap} {x qual : Str} {st : Stmt} {f : Addr} {fd : FuncData} {N ps : List Str} {k : Nat} {body : M Fl} {cv : Value} (F : Fun K x qual st f fd) (hcv : fd.code = cv) (Sc : FnScope N ps (defScope st))
    (h : ∀ (A : Around) (outer : List PySem.Env) (s : Shared) (H : Hp) (vs : List V) (Q : VK) (E : XK), Room k (A.deeper (envOfC qual (defScope st) s.heap.objs.size f cv)) → (A.deeper (envOfC qual (defScope st) s.heap.objs.size f cv)).guards = some [] →
      GSs (cxOf CX0 P w K mg base N qual (defScope st) f cv A outer s H E).nox (defBody st) body) :
    FnG P w K mg base (k + 1) f fd ps (spG K ps.length (runF (N.length - ps.length) body)) := by
  refine FnG.of F Sc (fun vs H Q E q => q.1) fun cdv hc A outer s H vs Q E hr hgd q => ?_
  obtain rfl : cv = cdv := hcv.symm.trans hc
  refine ⟨_, h A outer s H vs Q E hr hgd, ?_⟩
  obtain ⟨hl, ι, sls, S, r, S', R, hs, hm, q⟩ := q
  have hl2 := hs.length
  unfold runF at hm
  rw [show ps.length = sls.length by omega] at hm
  have R0 := R.start (N := N) hs
  have fin : ∀ {σ' : SV} {e' : En} {H' : Hp} {ι' : List Addr} {S' : Sto}, Rel K H' ι' σ' e' S' → Post H ι (L2.start N vs) (sls.map some ++ List.replicate (N.length - sls.length) none) H' ι' σ' e' → RelS K H' ι' S' ∧ PostC H ι H' ι' := fun R' P' =>
    ⟨R'.s, P'.pre, P'.stay, P'.dom, fun a o h1 h2 => let ⟨q1, q2, _⟩ := P'.keep a o h1 h2 (no_own hs a); ⟨q1, q2⟩⟩
  split at hm
  · rename_i r0 e' S1 hb
    cases hm
    refine ⟨ι, _, S, _, e', _, R0, hb, fun v σ' H' ι' R' P' r' => ?_⟩
    obtain ⟨Rs, Pc⟩ := fin R' P'
    refine q v H' ι' Rs Pc ?_
    cases r with
    | d x => exact r'
    | new o =>
      obtain ⟨a, rfl, ro, n, nk⟩ := r'
      refine ⟨a, rfl, ro, n, ?_⟩
      cases hq : H a with
      | none => rfl
      | some u =>
        refine (nk u hq (fun hm => ?_) (no_own hs a)).elim
        obtain ⟨l, e⟩ := P'.pre
        exact n (e ▸ List.mem_append_left _ hm)
  · rename_i e' S1 hb
    cases hm
    refine ⟨ι, _, S, _, e', _, R0, hb, fun σ' H' ι' R' P' => ?_⟩
    obtain ⟨Rs, Pc⟩ := fin R' P'
    exact q .non H' ι' Rs Pc .non
  · cases hm
theorem fn_ok {P : Program} {w : World} {K : PySem.W.Frag} {mg : Str → Option Value} {base : Heap} {x qual : Str} {st : Stmt} {f : Addr} {fd : FuncData} {N ps : List Str} {k : Nat} {body : M Fl} (F : Fun K x qual st f fd) (Sc : FnScope N ps (defScope st))
    (h : ∀ (cdv : Value) (A : Around) (outer : List PySem.Env) (s : Shared) (H : Hp) (vs : List V) (Q : VK) (E : XK), Room k (A.deeper (envOfC qual (defScope st) s.heap.objs.size f cdv)) → (A.deeper (envOfC qual (defScope st) s.heap.objs.size f cdv)).guards = some [] →
      GSs (cxOf CX0 P w K mg base N qual (defScope st) f cdv A outer s H E).nox (defBody st) body) :
    FnG P w K mg base (k + 1) f fd ps (spG K ps.length (runF (N.length - ps.length) body)) := fn_okC F rfl Sc (h fd.code)
end G

set_option Elab.async false
set_option linter.all false
set_option maxRecDepth 1000000
set_option maxHeartbeats 2000000
/-! G5: targets, what is walked, loops, comprehensions. -/
namespace G
variable [Wld]
open PySem PySem.Spec PyProof.Rows L2

/-! ### targets -/
def wipeE (e : En) : List Nat → En
  | [] => e
  | v :: vs => (wipeE e vs).set v none
theorem wipe_at {σ : SV} {j : Nat} : ∀ {vs : List Nat}, (wipe σ vs)[j]? = if j ∈ vs ∧ j < σ.length then some none else σ[j]?
  | [] => by simp [wipe]
  | v :: vs => by
    unfold wipe
    by_cases hj : v = j
    · subst hj
      by_cases hl : v < σ.length
      · rw [List.getElem?_set_self (by rw [wipe_length]; exact hl), if_pos ⟨by simp, hl⟩]
      · rw [if_neg (fun h => hl h.2), List.getElem?_eq_none (by rw [List.length_set, wipe_length]; omega), List.getElem?_eq_none (by omega)]
    · rw [List.getElem?_set_ne hj, wipe_at]
      have : (j ∈ vs ∧ j < σ.length) ↔ (j ∈ v :: vs ∧ j < σ.length) := by simp [Ne.symm hj]
      by_cases h : j ∈ vs ∧ j < σ.length
      · rw [if_pos h, if_pos (this.mp h)]
      · rw [if_neg h, if_neg (fun z => h (this.mpr z))]
theorem wipeE_length (e : En) : ∀ vs : List Nat, (wipeE e vs).length = e.length
  | [] => rfl
  | v :: vs => by unfold wipeE; rw [List.length_set, wipeE_length e vs]
theorem wipeE_some {e : En} {i : Nat} {x : Sl} : ∀ {vs : List Nat}, (wipeE e vs)[i]? = some (some x) → e[i]? = some (some x) ∧ i ∉ vs
  | [], h => ⟨h, by simp⟩
  | v :: vs, h => by
    unfold wipeE at h
    by_cases hi : v = i
    · subst hi
      by_cases hv : v < (wipeE e vs).length
      · rw [List.getElem?_set_self hv] at h; cases h
      · rw [List.getElem?_eq_none (by simpa using hv)] at h; cases h
    · rw [List.getElem?_set_ne hi] at h
      obtain ⟨h1, h2⟩ := wipeE_some h
      exact ⟨h1, by simp only [List.mem_cons, not_or]; exact ⟨fun e => hi e.symm, h2⟩⟩
theorem wipe_set {σ : SV} {i : Nat} {x : Option V} {vs : List Nat} (h : i ∈ vs) : wipe (σ.set i x) vs = wipe σ vs := by
  apply List.ext_getElem?
  intro j
  rw [wipe_at, wipe_at, List.length_set]
  by_cases hj : j ∈ vs ∧ j < σ.length
  · rw [if_pos hj, if_pos hj]
  · rw [if_neg hj, if_neg hj]
    by_cases hij : i = j
    · subst hij
      have : ¬ i < σ.length := fun z => hj ⟨h, z⟩
      rw [List.getElem?_eq_none (by rw [List.length_set]; omega), List.getElem?_eq_none (by omega)]
    · rw [List.getElem?_set_ne hij]
abbrev Tgt := D → En → Option En
abbrev Tgts := List D → En → Option En
def tGG (K : PySem.W.Frag) (vs : List Nat) (t : Tgt) : TG := fun v σ H Q => ∃ ι e S d e', Rel K H ι σ e S ∧ RD K H ι v d ∧ t d e = some e' ∧
  ∀ σ', Rel K H ι σ' e' S → Post H ι σ e H ι σ' e' → wipe σ' vs = wipe σ vs → Q σ' H
def tGGs (K : PySem.W.Frag) (vs : List Nat) (t : Tgts) : TGs := fun xs σ H Q => ∃ ι e S ds e', Rel K H ι σ e S ∧ RDs K H ι xs ds ∧ t ds e = some e' ∧
  ∀ σ', Rel K H ι σ' e' S → Post H ι σ e H ι σ' e' → wipe σ' vs = wipe σ vs → Q σ' H
abbrev GG (X : Cx) (vs : List Nat) (ex : Expr) (t : Tgt) : Prop := PG X ex (tGG X.K vs t)
abbrev GGs (X : Cx) (vs : List Nat) (es : List Expr) (t : Tgts) : Prop := PGs X es (tGGs X.K vs t)
theorem PG.imp {X : Cx} {ex : Expr} {t t' : TG} (h : PG X ex t) (w : ∀ v σ H Q, t' v σ H Q → t v σ H Q) : PG X ex t' := ⟨fun pins s σ H v u Q I r q => h.run pins s σ H v u Q I r (w v σ H Q q)⟩
theorem PGs.imp {X : Cx} {es : List Expr} {t t' : TGs} (h : PGs X es t) (w : ∀ v σ H Q, t' v σ H Q → t v σ H Q) : PGs X es t' := ⟨fun pins s σ H v u Q I r q => h.run pins s σ H v u Q I r (w v σ H Q q)⟩
def gtName (i : Nat) : Tgt := fun d e => if i < e.length then some (e.set i (some (.d d))) else none
def gtNil : Tgts := fun ds e => match ds with
  | [] => some e
  | _ => none
def gtCons (t : Tgt) (ts : Tgts) : Tgts := fun ds e => match ds with
  | d :: r => (t d e).bind fun e1 => ts r e1
  | [] => none
def gtTup (n : Nat) (ts : Tgts) : Tgt := fun d e => match d with
  | .tup ds => if ds.length = n then ts ds e else none
  | _ => none
section
variable {X : Cx} {vs : List Nat} {ex : Expr} {es : List Expr} {t : Tgt} {ts : Tgts} {pos : Pos}
theorem gg_name {i : Nat} {x : Str} (hN : X.N.Nodup) (hi : X.N[i]? = some x) (hx : Loc X.env.scope x) (hv : i ∈ vs := by decide) (hf : X.fn x = true ∨ X.env.scope.names.lookup x = some .local := by first | exact .inl rfl | exact .inr rfl | assumption) : GG X vs (.Name x pos) (gtName i) :=
  PG.imp (pg_name hN hi hx hf) fun v σ H Q q => by
    obtain ⟨ι, e, S, d, e', R, rd, ht, q⟩ := q
    unfold gtName at ht
    split at ht
    · cases ht
      rename_i hl
      exact q _ (R.setSl hl rd (fun _ z => nomatch z) fun _ _ z => z.elim) (Post.refl.setSl hl R.len fun _ _ z => z.elim) (wipe_set hv)
    · cases ht
theorem ggs_nil : GGs X vs [] gtNil := PGs.imp pgs_nil fun xs σ H Q q => by
  obtain ⟨ι, e, S, ds, e', R, rd, ht, q⟩ := q
  cases ds with
  | nil => cases ht; cases rd; exact ⟨rfl, q σ R .refl rfl⟩
  | cons _ _ => cases ht
theorem ggs_cons (h1 : GG X vs ex t) (h2 : GGs X vs es ts) (hs : (assignEach (ex :: es) X.env).map (·.2) = assign ex X.env :: (assignEach es X.env).map (·.2) := by rfl) : GGs X vs (ex :: es) (gtCons t ts) := PGs.imp (pgs_cons h1 h2 hs) fun xs σ H Q q => by
  obtain ⟨ι, e, S, ds, e', R, rd, ht, q⟩ := q
  cases rd with
  | nil => cases ht
  | cons r1 r2 =>
    obtain ⟨e1, h1, h2⟩ := Option.bind_eq_some_iff.mp (show (t _ e).bind (fun e1 => ts _ e1) = some e' from ht)
    exact ⟨_, _, rfl, ι, e, S, _, e1, R, r1, h1, fun σ1 R1 P1 w1 => ⟨ι, e1, S, _, e', R1, r2, h2, fun σ2 R2 P2 w2 => q σ2 R2 (P1.trans P2) (w2.trans w1)⟩⟩
theorem gg_tup {k n : Nat} (hc : X.calm = true) (h : GGs X vs es ts) (hn : (assignEach es X.env).length = n := by rfl) (hst : (assignEach es X.env).findIdx? (·.1) = none := by rfl) : GG X vs (.Tuple es k pos) (gtTup n ts) :=
  PG.imp (pg_tup hc h hn hst) fun v σ H Q q => by
    obtain ⟨ι, e, S, d, e', R, rd, ht, q⟩ := q
    cases d with
    | tup ds =>
      cases rd with
      | tup h1 h2 =>
        have ht' : (if ds.length = n then ts ds e else none) = some e' := ht
        split at ht'
        · exact ⟨_, _, rfl, h1, by rw [h2.length]; assumption, ι, e, S, ds, e', R, h2, ht', q⟩
        · cases ht'
    | _ => cases ht
/-- a, b, .. = e -/
def mAsg (t : Tgt) (m : M R) : M Fl := bnd m fun r e S => match r with
  | .d x => (t x e).map fun e' => (.nx, e', S)
  | _ => none
/-- a, b = x, y with plain local names -/
def mPar (i j : Nat) (ms : M (List R)) : M Fl := bnd ms fun rs e S => match dsOf rs with
  | some [x, y] => if i < e.length ∧ j < e.length then some (.nx, (e.set i (some (.d x))).set j (some (.d y)), S) else none
  | _ => none
end

/-! ### what is walked -/
structure Src where
  items : List D
  ws : List (R × List D)
def Wat (ws : List (R × List D)) (e : En) (S : Sto) : Prop := ∀ p ∈ ws, look p.1 e S = some (.lst p.2)
def Feeds (K : PySem.W.Frag) (src : Src) (J : It) (H1 : Hp) (ι1 : List Addr) (σ1 : SV) (e1 : En) : Prop :=
  ∀ i H ι σ e S, Rel K H ι σ e S → Post H1 ι1 σ1 e1 H ι σ e → Wat src.ws e S → (∀ p ∈ src.ws, ∀ j, p.1 = .loc j → σ[j]? = σ1[j]?) →
    (∀ d, src.items[i]? = some d → J.go i H ∧ ∀ x H', J.yld i H x H' → Rel K H' ι σ e S ∧ Post H ι σ e H' ι σ e ∧ RD K H' ι x d ∧ ∀ b o, H b = some o → H' b = some o) ∧ (src.items.length ≤ i → J.stop i H)
def tGI (K : PySem.W.Frag) (m : M Src) : TI := fun σ H Rr => ∃ ι e S src e' S', Rel K H ι σ e S ∧ m e S = some (src, e', S') ∧
  ∀ J H' ι', Rel K H' ι' σ e' S' → Post H ι σ e H' ι' σ e' → Feeds K src J H' ι' σ e' → src.items.length ≤ sizeLine → Rr J H'
abbrev GI (X : Cx) (tg ex : Expr) (m : M Src) : Prop := PI X tg ex (tGI X.K m)
theorem PI.imp {X : Cx} {tg ex : Expr} {t t' : TI} (h : PI X tg ex t) (w : ∀ σ H Q, t' σ H Q → t σ H Q) : PI X tg ex t' := ⟨fun pins s σ H Q I q => h.run pins s σ H Q I (w σ H Q q)⟩
theorem PI.or {X : Cx} {tg ex : Expr} {t t' : TI} (h : PI X tg ex t) (h' : PI X tg ex t') : PI X tg ex (fun σ H R => t σ H R ∨ t' σ H R) := ⟨fun pins s σ H Q I q => q.elim (h.run pins s σ H Q I) (h'.run pins s σ H Q I)⟩
/-- lists and tuples that are there are not too long -/
def Bd (K : PySem.W.Frag) (H : Hp) : Prop := ∀ a xs, SqL K H a xs ∨ SqT K H a xs → xs.length ≤ sizeLine
theorem Inv.bd {X : Cx} {pins σ H s} (I : Inv X pins σ H s) : Bd X.K H := fun a xs h => by
  rcases h with h | h
  · obtain ⟨_, _, _, z⟩ := I.list h; exact z
  · obtain ⟨_, _, _, z⟩ := I.tuple h; exact z
theorem PI.bd {X : Cx} {tg ex : Expr} {t : TI} (h : PI X tg ex t) : PI X tg ex (fun σ H R => t σ H fun J H1 => Bd X.K H1 → R J H1) := ⟨fun pins s σ H Q I q =>
  thn (h.run pins s σ H _ I q) fun v s1 h1 => thn h1 fun itv s2 ⟨it, fp, tn, J, H', e, I', T, st, f, r⟩ => ⟨it, fp, tn, J, H', e, I', T, st, f, r (Inv.bd I')⟩⟩
/-- the items of a list or a tuple -/
def srcOf (r : R) : M Src := fun e S => match r with
  | .d (.tup ds) => some (⟨ds, []⟩, e, S)
  | .d (.lst ds) => some (⟨ds, []⟩, e, S)
  | .new (.lst ds) => some (⟨ds, []⟩, e, S)
  | .brw (.lst ds) => some (⟨ds, []⟩, e, S)
  | r => match look r e S with
    | some (.lst ds) => some (⟨ds, [(r, ds)]⟩, e, S)
    | _ => none
def mSrc (m : M R) : M Src := bnd m srcOf
theorem feeds_tup {K : PySem.W.Frag} {H1 : Hp} {ι1 : List Addr} {σ1 : SV} {e1 : En} {a : Addr} {xs : List V} {ds : List D} (h : SqT K H1 a xs) (rd : RDs K H1 ι1 xs ds) : Feeds K ⟨ds, []⟩ (Itt K a) H1 ι1 σ1 e1 := fun i H ι σ e S R P _ _ => by
  have h' := stay_t P.stay h
  have rd' := RDs.mono P.stay P.pre _ _ rd
  refine ⟨fun d hd => ?_, fun hl => ⟨xs, h', by rw [rd.length]; exact hl⟩⟩
  obtain ⟨v, hv, rv⟩ := rd'.get hd
  exact ⟨⟨xs, v, h', hv⟩, fun x H' hy => by
    obtain ⟨rfl, hy⟩ := hy
    have := hy xs h'
    rw [hv] at this; cases this
    exact ⟨R, .refl, rv, fun _ _ h => h⟩⟩
theorem feeds_lst {K : PySem.W.Frag} {H1 : Hp} {ι1 : List Addr} {σ1 : SV} {e1 : En} {a : Addr} {ds : List D} {ws : List (R × List D)}
    (h : ∀ H ι σ e S, Rel K H ι σ e S → Post H1 ι1 σ1 e1 H ι σ e → Wat ws e S → (∀ p ∈ ws, ∀ j, p.1 = .loc j → σ[j]? = σ1[j]?) → ∃ xs, SqL K H a xs ∧ RDs K H ι xs ds) : Feeds K ⟨ds, ws⟩ (Itl K a) H1 ι1 σ1 e1 := fun i H ι σ e S R P w1 w2 => by
  obtain ⟨xs, h', rd'⟩ := h H ι σ e S R P w1 w2
  refine ⟨fun d hd => ?_, fun hl => ⟨xs, h', by rw [rd'.length]; exact hl⟩⟩
  obtain ⟨v, hv, rv⟩ := rd'.get hd
  exact ⟨⟨xs, v, h', hv⟩, fun x H' hy => by
    obtain ⟨rfl, hy⟩ := hy
    have := hy xs h'
    rw [hv] at this; cases this
    exact ⟨R, .refl, rv, fun _ _ h => h⟩⟩
/-- a list that nobody here writes stays -/
theorem Post.list {K : PySem.W.Frag} {H H' : Hp} {ι ι' : List Addr} {σ σ' : SV} {e e' : En} {a : Addr} {ds : List D} (P : Post H ι σ e H' ι' σ' e') (ro : RO K H ι a (.lst ds)) (h1 : a ∉ ι) (h2 : ¬ Own σ e a) : ∃ xs, SqL K H' a xs ∧ RDs K H' ι' xs ds := by
  obtain ⟨xs, hx, rd⟩ := ro
  exact ⟨xs, .inl (.inl (P.keep a _ hx h1 h2).1), RDs.mono P.stay P.pre _ _ rd⟩
theorem gi_seq {X : Cx} {tg ex : Expr} {m : M R} (h : GE X ex m) : GI X tg ex (mSrc m) := PI.imp (PI.bd (PI.or (pi_list h) (pi_tup h))) fun σ H Q q => by
  obtain ⟨ι, e, S, src, e', S', R, hm, q⟩ := q
  obtain ⟨r, e1, S1, h1, hm⟩ := bnd_eq hm
  by_cases ht : ∃ ds, r = .d (.tup ds)
  · obtain ⟨ds, rfl⟩ := ht
    cases hm
    refine .inr ⟨ι, e, S, _, _, _, R, h1, fun v H1 ι1 R1 P1 r1 f1 => ?_⟩
    cases r1 with
    | tup g1 g2 => exact ⟨_, rfl, ⟨_, g1⟩, fun bd => q _ H1 ι1 R1 P1 (feeds_tup g1 g2) (by rw [← g2.length]; exact bd _ _ (.inr g1))⟩
  · refine .inl ⟨ι, e, S, r, e1, S1, R, h1, fun v H1 ι1 R1 P1 r1 f1 => ?_⟩
    have fin : ∀ {a ds ws}, v = .ref a → src = ⟨ds, ws⟩ → e1 = e' → S1 = S' → (∃ xs, SqL X.K H1 a xs ∧ RDs X.K H1 ι1 xs ds) → Feeds X.K ⟨ds, ws⟩ (Itl X.K a) H1 ι1 σ e1 →
        ∃ a, v = .ref a ∧ (∃ xs, SqL X.K H1 a xs) ∧ (Bd X.K H1 → Q (Itl X.K a) H1) := fun {a ds ws} ev es ee eS hx hf => by
      subst ev es ee eS
      obtain ⟨xs, g1, g2⟩ := hx
      exact ⟨_, rfl, ⟨_, g1⟩, fun bd => q _ H1 ι1 R1 P1 hf (by show ds.length ≤ _; rw [← g2.length]; exact bd _ _ (.inl g1))⟩
    unfold srcOf at hm
    split at hm
    · exact (ht ⟨_, rfl⟩).elim
    · cases hm
      cases r1 with
      | lst g1 g2 => exact fin rfl rfl rfl rfl ⟨_, g1.sq, g2⟩ (feeds_lst fun H2 ι2 σ2 e2 S2 R2 P2 _ _ => ⟨_, (stay_l P2.stay g1).sq, RDs.mono P2.stay P2.pre _ _ g2⟩)
    · cases hm
      obtain ⟨a, rfl, ro, n1, n2⟩ := r1
      exact fin rfl rfl rfl rfl (Post.refl.list ro n1 fun z => n2 (.of z)) (feeds_lst fun H2 ι2 σ2 e2 S2 R2 P2 _ _ => P2.list ro n1 fun z => n2 (.of z))
    · cases hm
      obtain ⟨a, rfl, ro, n1, n2⟩ := r1
      exact fin rfl rfl rfl rfl (Post.refl.list ro n1 n2) (feeds_lst fun H2 ι2 σ2 e2 S2 R2 P2 _ _ => P2.list ro n1 n2)
    · split at hm
      · rename_i hlk
        cases hm
        obtain ⟨a, xs, rfl, g1, g2⟩ := R1.lookL r1 hlk
        refine fin rfl rfl rfl rfl ⟨xs, g1, g2⟩ (feeds_lst fun H2 ι2 σ2 e2 S2 R2 P2 w1 w2 => ?_)
        have hl2 := w1 _ (List.mem_singleton.mpr rfl)
        have r2 : RR X.K H2 ι2 σ2 e2 (.ref a) r := by
          cases r with
          | d x => exact RD.mono P2.stay P2.pre _ _ r1
          | lm i cs => cases hlk
          | loc j =>
            have : σ2[j]? = σ[j]? := w2 _ (List.mem_singleton.mpr rfl) j rfl
            show σ2[j]? = _
            rw [this]
            exact r1
          | new o =>
            obtain ⟨a', ea, ro, n1, n2⟩ := r1
            cases ea
            cases o with
            | lst ds => rename_i z _; exact (z ds rfl).elim
            | dct kvs => cases hlk
            | kd kvs => cases hlk
            | tab q => cases hlk
            | ins _ _ _ => cases hlk
            | kx _ => cases hlk
          | brw o =>
            obtain ⟨a', ea, ro, n1, n2⟩ := r1
            cases ea
            cases o with
            | lst ds => rename_i z; exact (z ds rfl).elim
            | dct kvs => cases hlk
            | kd kvs => cases hlk
            | tab q => cases hlk
            | ins _ _ _ => cases hlk
            | kx _ => cases hlk
        obtain ⟨a', xs', ea, g3, g4⟩ := R2.lookL r2 hl2
        cases ea
        exact ⟨xs', g3, g4⟩
      · cases hm
end G

set_option Elab.async false
set_option linter.all false
set_option maxRecDepth 1000000
set_option maxHeartbeats 2000000
/-! G6: for, while, list comprehensions. -/
namespace G
variable [Wld]
open PySem PySem.Spec PyProof.Rows L2
open Classical in
noncomputable def wat (ws : List (R × List D)) (e : En) (S : Sto) : Bool := decide (Wat ws e S)
open Classical in
theorem wat_nil (e : En) (S : Sto) : wat [] e S = true := by unfold wat; exact decide_eq_true (fun _ h => nomatch h)
open Classical in
theorem wat_one {r : R} {ds : List D} {e : En} {S : Sto} (h : look r e S = some (.lst ds)) : wat [(r, ds)] e S = true := by
  unfold wat; exact decide_eq_true fun p hp => by cases List.mem_singleton.mp hp; exact h
open Classical in
theorem of_wat {ws : List (R × List D)} {e : En} {S : Sto} (h : wat ws e S = true) : Wat ws e S := by unfold wat at h; exact of_decide_eq_true h
def isRef : R → Bool
  | .d (.ref _) => true
  | _ => false

/-! ### for -/
noncomputable def forL (t : Tgt) (body : M Fl) (ws : List (R × List D)) : List D → M Fl
  | [] => fun e S => if wat ws e S then some (.nx, e, S) else none
  | d :: ds => fun e S => if wat ws e S then (match t d e with
    | some e1 => match body e1 S with
      | some (.nx, e2, S2) => forL t body ws ds e2 S2
      | some (.ct, e2, S2) => forL t body ws ds e2 S2
      | some (.bk, e2, S2) => some (.nx, e2, S2)
      | some (.rt r, e2, S2) => some (.rt r, e2, S2)
      | none => none
    | none => none) else none
noncomputable def mFor (t : Tgt) (mi : M Src) (body : M Fl) : M Fl := bnd mi fun src => if (src.ws.all fun p => isRef p.1) then forL t body src.ws src.items else stk
section
variable {X : Cx}
theorem gs_for {tg iter : Expr} {body : List Stmt} {mi : M Src} {vs : List Nat} {t : Tgt} {mb : M Fl} {pos : Pos} (hp : PassesOwn (model X.prog X.w) X.A X.env X.xe) (hc : X.calm = true) (hi : GI X tg iter mi) (hg : GG X vs tg t) (hb : GSs X body mb)
    (hs : ∀ x, foldedSetIterable iter X.env x = pure x := by intro _; rfl) : GS X (.For tg iter body [] pos) (mFor t mi mb) := PS.imp (ps_for hp hc hi hg hb hs) fun D σ H q => by
  obtain ⟨ι, e, S, fl, e', S', R, hm, q⟩ := q
  obtain ⟨src, e1, S1, h1, hm⟩ := bnd_eq hm
  refine ⟨ι, e, S, src, e1, S1, R, h1, fun J H1 ι1 R1 P1 fd hz => ?_⟩
  split at hm
  case isFalse => cases hm
  rename_i hall
  have noloc : ∀ p ∈ src.ws, ∀ j, p.1 = .loc j → False := fun p hp j hj => by
    have := List.all_eq_true.mp hall p hp
    rw [hj] at this; cases this
  refine ⟨fun i m σ' H' => m = src.items.length - i ∧ i ≤ src.items.length ∧ ∃ ι2 e2 S2, Rel X.K H' ι2 σ' e2 S2 ∧ Post H1 ι1 σ e1 H' ι2 σ' e2 ∧ forL t mb src.ws (src.items.drop i) e2 S2 = some (fl, e', S'),
    ⟨_, rfl, Nat.zero_le _, ι1, e1, S1, R1, .refl, by simpa using hm⟩, ?_⟩
  rintro i m σ2 H2 ⟨rfl, hi, ι2, e2, S2, R2, P2, hf⟩
  by_cases hlt : i < src.items.length
  · rw [List.drop_eq_getElem_cons hlt] at hf
    unfold forL at hf
    split at hf
    case isFalse => cases hf
    rename_i hw
    split at hf
    case h_2 => cases hf
    rename_i e3 ht
    obtain ⟨go, yld⟩ := (fd i H2 ι2 σ2 e2 S2 R2 P2 (of_wat hw) fun p hp j hj => (noloc p hp j hj).elim).1 _ (List.getElem?_eq_getElem hlt)
    refine .inr ⟨go, fun σ' H' => ∃ ι4 e4 S4, Rel X.K H' ι4 σ' e4 S4 ∧ Post H1 ι1 σ e1 H' ι4 σ' e4 ∧ forL t mb src.ws (src.items.drop (i + 1)) e4 S4 = some (fl, e', S'), fun σ' H' h => ⟨src.items.length - (i + 1), by omega, rfl, hlt, h⟩, fun x H3 hy => ?_⟩
    obtain ⟨R3, P3, rd, _⟩ := yld x H3 hy
    refine ⟨ι2, e2, S2, _, e3, R3, rd, ht, fun σ3 R4 P4 _ => ?_⟩
    have PA := (P2.trans P3).trans P4
    split at hf
    · rename_i e5 S5 hb
      exact ⟨ι2, e3, S2, .nx, e5, S5, R4, hb, fun σ5 H5 ι5 R5 P5 => ⟨ι5, e5, S5, R5, PA.trans P5, hf⟩⟩
    · rename_i e5 S5 hb
      exact ⟨ι2, e3, S2, .ct, e5, S5, R4, hb, fun σ5 H5 ι5 R5 P5 => ⟨ι5, e5, S5, R5, PA.trans P5, hf⟩⟩
    · rename_i e5 S5 hb
      cases hf
      exact ⟨ι2, e3, S2, .bk, _, _, R4, hb, fun σ5 H5 ι5 R5 P5 => q σ5 H5 ι5 R5 (P1.trans (PA.trans P5))⟩
    · rename_i r e5 S5 hb
      cases hf
      exact ⟨ι2, e3, S2, .rt r, _, _, R4, hb, fun v σ5 H5 ι5 R5 P5 r5 => q v σ5 H5 ι5 R5 (P1.trans (PA.trans P5)) (r5.back (P1.trans PA))⟩
    · cases hf
  · have ei : i = src.items.length := by omega
    subst ei
    rw [List.drop_length] at hf
    unfold forL at hf
    split at hf
    case isFalse => cases hf
    rename_i hw
    cases hf
    exact .inl ⟨(fd _ H2 ι2 σ2 _ _ R2 P2 (of_wat hw) fun p hp j hj => (noloc p hp j hj).elim).2 (Nat.le_refl _), q σ2 H2 ι2 R2 (P1.trans P2)⟩

/-! ### while -/
def whileL (c : M Bool) (body : M Fl) : Nat → M Fl
  | 0 => stk
  | n + 1 => fun e S => match c e S with
    | some (true, e1, S1) => (match body e1 S1 with
      | some (.nx, e2, S2) => whileL c body n e2 S2
      | some (.ct, e2, S2) => whileL c body n e2 S2
      | some (.bk, e2, S2) => some (.nx, e2, S2)
      | some (.rt r, e2, S2) => some (.rt r, e2, S2)
      | none => none)
    | some (false, e1, S1) => some (.nx, e1, S1)
    | none => none
theorem gs_while {c : Expr} {body : List Stmt} {mc : M Bool} {mb : M Fl} {pos : Pos} (n : Nat) (hp : PassesOwn (model X.prog X.w) X.A X.env X.xe) (hc : GT X c mc) (hb : GSs X body mb) : GS X (.While c body [] pos) (whileL mc mb n) := PS.imp (ps_while hp hc hb) fun D σ H q => by
  obtain ⟨ι, e, S, fl, e', S', R, hm, q⟩ := q
  refine ⟨fun m σ' H' => ∃ ι2 e2 S2, Rel X.K H' ι2 σ' e2 S2 ∧ Post H ι σ e H' ι2 σ' e2 ∧ whileL mc mb m e2 S2 = some (fl, e', S'), ⟨n, ι, e, S, R, .refl, hm⟩, ?_⟩
  rintro m σ2 H2 ⟨ι2, e2, S2, R2, P2, hf⟩
  cases m with
  | zero => cases hf
  | succ m =>
    unfold whileL at hf
    split at hf
    · rename_i e3 S3 h3
      refine ⟨ι2, e2, S2, true, e3, S3, R2, h3, fun H3 ι3 R3 P3 => ?_⟩
      refine iteT ?_
      refine ⟨fun σ' H' => ∃ ι4 e4 S4, Rel X.K H' ι4 σ' e4 S4 ∧ Post H ι σ e H' ι4 σ' e4 ∧ whileL mc mb m e4 S4 = some (fl, e', S'), fun σ' H' h => ⟨m, Nat.lt_succ_self m, h⟩, ?_⟩
      have PA := P2.trans P3
      split at hf
      · rename_i e5 S5 hb
        exact ⟨ι3, e3, S3, .nx, e5, S5, R3, hb, fun σ5 H5 ι5 R5 P5 => ⟨ι5, e5, S5, R5, PA.trans P5, hf⟩⟩
      · rename_i e5 S5 hb
        exact ⟨ι3, e3, S3, .ct, e5, S5, R3, hb, fun σ5 H5 ι5 R5 P5 => ⟨ι5, e5, S5, R5, PA.trans P5, hf⟩⟩
      · rename_i e5 S5 hb
        cases hf
        exact ⟨ι3, e3, S3, .bk, _, _, R3, hb, fun σ5 H5 ι5 R5 P5 => q σ5 H5 ι5 R5 (PA.trans P5)⟩
      · rename_i r e5 S5 hb
        cases hf
        exact ⟨ι3, e3, S3, .rt r, _, _, R3, hb, fun v σ5 H5 ι5 R5 P5 r5 => q v σ5 H5 ι5 R5 (PA.trans P5) (r5.back PA)⟩
      · cases hf
    · rename_i e3 S3 h3
      cases hf
      refine ⟨ι2, e2, S2, false, _, _, R2, h3, fun H3 ι3 R3 P3 => ?_⟩
      refine iteF ?_
      exact q σ2 H3 ι3 R3 (P2.trans P3)
    · cases hf
end

/-! ### list comprehensions -/
noncomputable def compL (vs : List Nat) (t : Tgt) (c : M Bool) (elt : M R) (ws : List (R × List D)) : List D → M (List D)
  | [] => fun e S => if wat ws e S then some ([], e, S) else none
  | d :: ds => fun e S => if wat ws e S then (match t d e with
    | some e1 => match c e1 S with
      | some (true, e2, S2) => (match elt e2 S2 with
        | some (.d y, e3, S3) => (match compL vs t c elt ws ds (wipeE e3 vs) S3 with
          | some (ys, e4, S4) => some (y :: ys, e4, S4)
          | none => none)
        | _ => none)
      | some (false, e2, S2) => compL vs t c elt ws ds (wipeE e2 vs) S2
      | none => none
    | none => none) else none
noncomputable def mLc (vs : List Nat) (t : Tgt) (mi : M Src) (c : M Bool) (elt : M R) : M R := bnd mi fun src => bnd (fun e S => compL vs t c elt src.ws src.items (wipeE e vs) S) fun ys => pur (.new (.lst ys))
section
variable {K : PySem.W.Frag} {H : Hp} {ι : List Addr} {σ : SV} {e : En} {S : Sto} {vs : List Nat}
theorem Rel.wipe (R : Rel K H ι σ e S) (vs : List Nat) : Rel K H ι (L2.wipe σ vs) (wipeE e vs) S ∧ Post H ι σ e H ι (L2.wipe σ vs) (wipeE e vs) := by
  have back : ∀ {i : Nat} {v : V}, (L2.wipe σ vs)[i]? = some (some v) → σ[i]? = some (some v) := fun h => (wipe_some h).1
  refine ⟨⟨by rw [wipe_length, wipeE_length]; exact R.len, fun i s he => ?_, R.ilen, R.st, R.nd, fun i o a h1 h2 => ?_, fun i o a h1 h2 => R.brw i o a (wipeE_some h1).1 (back h2)⟩, ⟨⟨[], by simp⟩, .refl _, fun a o h => ⟨o, h⟩, fun b x h1 h2 h3 => ⟨h1, h2, ?_, fun h => ?_⟩⟩⟩
  · obtain ⟨h1, h2⟩ := wipeE_some he
    obtain ⟨v, hv, hs⟩ := R.sl i s h1
    exact ⟨v, by rw [wipe_at, if_neg (fun z => h2 z.1)]; exact hv, hs⟩
  · obtain ⟨q1, q2⟩ := R.own i o a (wipeE_some h1).1 (back h2)
    exact ⟨q1, fun j s b hj h3 h4 h5 => q2 j s b hj (wipeE_some h3).1 h4 (back h5)⟩
  · rintro ⟨i, o, h4, h5⟩
    exact h3 ⟨i, o, (wipeE_some h4).1, back h5⟩
  · rintro ⟨i, s, h4, h6, h5⟩
    exact h ⟨i, s, (wipeE_some h4).1, h6, back h5⟩
/-- back from a block: what the block left of the slots stands in the def's -/
theorem Rel.unwipe (R : Rel K H ι (L2.wipe σ vs) e S) (hl : σ.length = e.length) (hw : ∀ i ∈ vs, ∀ s, e[i]? ≠ some (some s)) : Rel K H ι σ e S := by
  have fwd : ∀ {i : Nat} {s : Sl} {v : V}, e[i]? = some (some s) → (σ[i]? = some (some v) ↔ (L2.wipe σ vs)[i]? = some (some v)) := fun {i s v} h => by
    rw [wipe_at, if_neg (fun z => hw i z.1 s h)]
  refine ⟨hl, fun i s he => ?_, R.ilen, R.st, R.nd, fun i o a h1 h2 => ?_, fun i o a h1 h2 => R.brw i o a h1 ((fwd h1).mp h2)⟩
  · obtain ⟨v, hv, hs⟩ := R.sl i s he
    exact ⟨v, (fwd he).mpr hv, hs⟩
  · obtain ⟨q1, q2⟩ := R.own i o a h1 ((fwd h1).mp h2)
    exact ⟨q1, fun j s b hj h3 h4 h5 => q2 j s b hj h3 h4 ((fwd h3).mp h5)⟩
end
theorem wipeE_none {e : En} {vs : List Nat} {i : Nat} {s : Sl} (h : i ∈ vs) : (wipeE e vs)[i]? ≠ some (some s) := fun z => (wipeE_some z).2 h
theorem wipe_wipe (σ : SV) (vs : List Nat) : L2.wipe (L2.wipe σ vs) vs = L2.wipe σ vs := by
  apply List.ext_getElem?
  intro j
  rw [wipe_at, wipe_length, wipe_at]
  by_cases hj : j ∈ vs ∧ j < σ.length
  · rw [if_pos hj, if_pos hj]
  · rw [if_neg hj]
structure GTs (X : Cx) (ifs : List Expr) (m : M Bool) : Prop where
  h : PTs X ifs (tGT X.K m)
theorem gts_nil {X : Cx} : GTs X [] (pur true) := ⟨⟨fun pins s σ H Q I q => pts_nil.run pins s σ H Q I (tGT_pur q)⟩⟩
theorem compL_env {vs : List Nat} {t : Tgt} {c : M Bool} {elt : M R} {ws : List (R × List D)} : ∀ {ds : List D} {e : En} {S : Sto} {z}, compL vs t c elt ws ds e S = some z → (∀ i ∈ vs, ∀ s, e[i]? ≠ some (some s)) → ∀ i ∈ vs, ∀ s, z.2.1[i]? ≠ some (some s)
  | [], e, S, z, h, hw => by
    unfold compL at h
    split at h
    · cases h; exact hw
    · cases h
  | d :: ds, e, S, z, h, hw => by
    unfold compL at h
    split at h
    case isFalse => cases h
    split at h
    case h_2 => cases h
    split at h
    · split at h
      · split at h
        · rename_i hh
          cases h
          exact fun i hi s => (compL_env hh (fun i hi s => wipeE_none hi) i hi s)
        · cases h
      · cases h
    · exact compL_env h fun i hi s => wipeE_none hi
    · cases h
theorem tLc_of {K : PySem.W.Frag} {mi : M Src} {vs : List Nat} {t : Tgt} {mc : M Bool} {me : M R} {σ : SV} {H : Hp} {Q : VK} (q : tG K (mLc vs t mi mc me) σ H Q) : tLc (tGI K mi) (tGG K vs t) (tGT K mc) (tG K me) vs σ H Q := by
  obtain ⟨ι, e, S, r, e', S', R, hm, q⟩ := q
  obtain ⟨src, e1, S1, h1, hm⟩ := bnd_eq hm
  obtain ⟨ys, e2, S2, h2, hm⟩ := bnd_eq hm
  cases hm
  refine ⟨ι, e, S, src, e1, S1, R, h1, fun J H1 ι1 R1 P1 fd hz => fun Da hD => ?_⟩
  have hend := compL_env h2 fun i hi s => wipeE_none hi
  obtain ⟨R2, P2, nD1, nD2⟩ := R1.new (u := .lst []) hD
  obtain ⟨R3, P3⟩ := R2.wipe vs
  have P3' := P2.trans P3
  -- the list's own place is no slot's, none of the store's
  have nD3 : ¬ L2.wipe σ vs = [] ∨ True := .inr trivial
  refine ⟨fun i m H' => m = src.items.length - i ∧ i ≤ src.items.length ∧ ∃ ι4 e4 S4 acc xs zs, Rel K H' ι4 (L2.wipe σ vs) e4 S4 ∧ Post H1 ι1 σ e1 H' ι4 (L2.wipe σ vs) e4 ∧ H' Da = some (.lst xs) ∧ RDs K H' ι4 xs acc ∧ Da ∉ ι4 ∧ ¬ Obj (L2.wipe σ vs) e4 Da ∧
      acc.length ≤ i ∧ compL vs t mc me src.ws (src.items.drop i) e4 S4 = some (zs, e', S') ∧ ys = acc ++ zs ∧ (∀ i ∈ vs, ∀ s, e4[i]? ≠ some (some s)) ∧ e4.length = e1.length,
    ⟨_, rfl, Nat.zero_le _, ι1, wipeE e1 vs, S1, [], [], ys, R3, P3', upd_same, .nil, nD1, fun ⟨i, s, z1, z2, z3⟩ => nD2 ⟨i, s, (wipeE_some z1).1, z2, (wipe_some z3).1⟩, Nat.le_refl _, by simpa using h2, rfl, fun i hi s => wipeE_none hi, wipeE_length _ _⟩, ?_⟩
  rintro i m H4 ⟨rfl, hi, ι4, e4, S4, acc, xs, zs, R4, P4, hD4, rd4, n1, n2, hacc, hc, rfl, hw4, hlen4⟩
  have hσe : (L2.wipe σ vs).length = e4.length := R4.len
  have hlen : σ.length = e4.length := by rw [← hσe, wipe_length]
  by_cases hlt : i < src.items.length
  · rw [List.drop_eq_getElem_cons hlt] at hc
    unfold compL at hc
    split at hc
    case isFalse => cases hc
    rename_i hwat
    split at hc
    case h_2 => cases hc
    rename_i e5 ht
    have wl : ∀ p ∈ src.ws, ∀ j, p.1 = .loc j → (L2.wipe σ vs)[j]? = σ[j]? := fun p hp j hj => by
      have z := of_wat hwat p hp
      rw [hj] at z
      have z' : (match e4[j]? with
        | some (some (.own o)) => some o
        | _ => none) = some (O.lst p.2) := z
      split at z'
      · rename_i hh
        rw [wipe_at, if_neg (fun zz => hw4 j zz.1 _ hh)]
      · cases z'
    obtain ⟨go, yld⟩ := (fd i H4 ι4 _ e4 S4 R4 P4 (of_wat hwat) wl).1 _ (List.getElem?_eq_getElem hlt)
    refine .inr ⟨go, fun H' => ∃ ι9 e9 S9 acc9 xs9 zs9, Rel K H' ι9 (L2.wipe σ vs) e9 S9 ∧ Post H1 ι1 σ e1 H' ι9 (L2.wipe σ vs) e9 ∧ H' Da = some (.lst xs9) ∧ RDs K H' ι9 xs9 acc9 ∧ Da ∉ ι9 ∧ ¬ Obj (L2.wipe σ vs) e9 Da ∧
      acc9.length ≤ i + 1 ∧ compL vs t mc me src.ws (src.items.drop (i + 1)) e9 S9 = some (zs9, e', S') ∧ acc ++ zs = acc9 ++ zs9 ∧ (∀ i ∈ vs, ∀ s, e9[i]? ≠ some (some s)) ∧ e9.length = e1.length,
      fun H' h => ⟨src.items.length - (i + 1), by omega, rfl, hlt, h⟩, fun x H5 hy => ?_⟩
    obtain ⟨R5, P5, rdx, keep5⟩ := yld x H5 hy
    refine ⟨ι4, e4, S4, _, e5, R5, rdx, ht, fun σ6 R6 P6 hwσ => ⟨by rw [hwσ, wipe_wipe], ?_⟩⟩
    have PA := (P4.trans P5).trans P6
    have hD5 : H5 Da = some (.lst xs) := keep5 _ _ hD4
    have P46 := P5.trans P6
    have kD : ∀ {H7 ι7 σ7 e7}, Post H5 ι4 σ6 e5 H7 ι7 σ7 e7 → H7 Da = some (.lst xs) ∧ Da ∉ ι7 ∧ ¬ Own σ7 e7 Da ∧ ¬ Obj σ7 e7 Da := fun P7 => by
      obtain ⟨z1, z2, z3, z4⟩ := (P46.trans P7).keep Da _ hD4 n1 fun z => n2 (.of z)
      exact ⟨z1, z2, z3, z4 n2⟩
    have back : ∀ {H7 ι7 e7 S7}, Rel K H7 ι7 σ6 e7 S7 → Post H5 ι4 σ6 e5 H7 ι7 σ6 e7 → Rel K H7 ι7 (L2.wipe σ vs) (wipeE e7 vs) S7 ∧ Post H1 ι1 σ e1 H7 ι7 (L2.wipe σ vs) (wipeE e7 vs) := fun {H7 ι7 e7 S7} R7 P7 => by
      obtain ⟨R8, P8⟩ := R7.wipe vs
      have hx : L2.wipe σ6 vs = L2.wipe σ vs := by rw [hwσ, wipe_wipe]
      rw [hx] at R8 P8
      exact ⟨R8, (PA.trans P7).trans P8⟩
    have nObj : ∀ {e7 : En}, ¬ Obj σ6 e7 Da → ¬ Obj (L2.wipe σ vs) (wipeE e7 vs) Da := fun {e7} h => by
      have hx : L2.wipe σ6 vs = L2.wipe σ vs := by rw [hwσ, wipe_wipe]
      rintro ⟨i, s, z1, z2, z3⟩
      rw [← hx] at z3
      exact h ⟨i, s, (wipeE_some z1).1, z2, (wipe_some z3).1⟩
    have lenE : ∀ {H7 ι7 e7 S7}, Rel K H7 ι7 σ6 e7 S7 → (wipeE e7 vs).length = e1.length := fun {H7 ι7 e7 S7} R7 => by
      have : (L2.wipe σ6 vs).length = (L2.wipe (L2.wipe σ vs) vs).length := by rw [hwσ]
      rw [wipe_length, wipe_length, wipe_length] at this
      rw [wipeE_length, ← R7.len, this]
      exact R1.len
    split at hc
    · rename_i e7 S7 hcond
      refine ⟨ι4, e5, S4, true, e7, S7, R6, hcond, fun H7 ι7 R7 P7 => ?_⟩
      refine iteT ?_
      split at hc
      · rename_i y e8 S8 helt
        split at hc
        case h_2 => cases hc
        rename_i zs' e9 S9 hrest
        cases hc
        refine ⟨ι7, e7, S7, _, e8, S8, R7, helt, fun v H8 ι8 R8 P8 r8 f8 => ?_⟩
        have P78 := P7.trans P8
        obtain ⟨k1, k2, k3, k4⟩ := kD P78
        refine ⟨xs, k1, by rw [rd4.length]; exact Nat.lt_of_lt_of_le (Nat.lt_of_le_of_lt hacc hlt) hz, ?_⟩
        obtain ⟨R9, P9⟩ := back R8 P78
        have st : Stay H8 (upd H8 Da (.lst (xs ++ [v]))) := Stay.mut k1 (fun _ z => nomatch z) fun _ _ z => nomatch z
        have n9 := nObj k4
        refine ⟨ι8, wipeE e8 vs, S8, acc ++ [y], xs ++ [v], zs', R9.other st k2 n9, P9.fresh hD st, upd_same, ?_, k2, n9, by simp; omega, hrest, by simp, fun i hi s => wipeE_none hi, lenE R8⟩
        exact RDs.mono st ⟨[], by simp⟩ _ _ (RDs.append (RDs.mono (P46.trans P78).stay (P46.trans P78).pre _ _ rd4) (.cons r8 .nil))
      · cases hc
    · rename_i e7 S7 hcond
      refine ⟨ι4, e5, S4, false, e7, S7, R6, hcond, fun H7 ι7 R7 P7 => ?_⟩
      refine iteF ?_
      obtain ⟨k1, k2, k3, k4⟩ := kD P7
      obtain ⟨R9, P9⟩ := back R7 P7
      exact ⟨ι7, wipeE e7 vs, S7, acc, xs, zs, R9, P9, k1, RDs.mono (P46.trans P7).stay (P46.trans P7).pre _ _ rd4, k2, nObj k4, by omega, hc, rfl, fun i hi s => wipeE_none hi, lenE R7⟩
    · cases hc
  · have ei : i = src.items.length := by omega
    subst ei
    rw [List.drop_length] at hc
    unfold compL at hc
    split at hc
    case isFalse => cases hc
    rename_i hwat
    cases hc
    have wl : ∀ p ∈ src.ws, ∀ j, p.1 = .loc j → (L2.wipe σ vs)[j]? = σ[j]? := fun p hp j hj => by
      have z := of_wat hwat p hp
      rw [hj] at z
      have z' : (match e'[j]? with
        | some (some (.own o)) => some o
        | _ => none) = some (O.lst p.2) := z
      split at z'
      · rename_i hh
        rw [wipe_at, if_neg (fun zz => hw4 j zz.1 _ hh)]
      · cases z'
    refine .inl ⟨(fd _ H4 ι4 _ _ _ R4 P4 (of_wat hwat) wl).2 (Nat.le_refl _), ?_⟩
    have RF := R4.unwipe hlen hw4
    have PF : Post H1 ι1 σ e1 H4 ι4 σ e' := by
      refine ⟨P4.pre, P4.stay, P4.dom, fun b x g1 g2 g3 => ?_⟩
      obtain ⟨z1, z2, z3, z4⟩ := P4.keep b x g1 g2 g3
      have fwd : ∀ {i : Nat} {s : Sl} {v : V}, e'[i]? = some (some s) → σ[i]? = some (some v) → (L2.wipe σ vs)[i]? = some (some v) := fun {i s v} h h' => by
        rw [wipe_at, if_neg (fun z => hw4 i z.1 s h)]; exact h'
      refine ⟨z1, z2, ?_, fun h => ?_⟩
      · rintro ⟨i, o, h5, h6⟩
        exact z3 ⟨i, o, h5, fwd h5 h6⟩
      · rintro ⟨i, s, h5, h7, h6⟩
        exact z4 h ⟨i, s, h5, h7, fwd h5 h6⟩
    refine q _ H4 ι4 RF (P1.trans PF) ⟨Da, rfl, ⟨xs, hD4, by simpa using rd4⟩, n1, fun ⟨i, s, h5, h7, h6⟩ => ?_⟩ ⟨Da, rfl, P1.back hD⟩
    refine n2 ⟨i, s, h5, h7, ?_⟩
    rw [wipe_at, if_neg (fun z => hw4 i z.1 s h5)]; exact h6
section
variable {X : Cx} {elt tg iter : Expr} {ifs : List Expr} {scope : Scope} {own : List (Str × Nat)} {pos : Pos} {mi : M Src} {t : Tgt} {mc : M Bool} {me : M R}
theorem ge_lc (hc : X.calm = true) (hN : X.N.Nodup) (hi : GI X tg iter mi) (ok : BlkOk X.N X.env.scope scope own)
    (hg : ∀ (s : Shared) (H : Hp) (C : Addr) (cl : List (Str × Addr)) (fp : List Addr), GG (X.blk s H scope (compEnvC scope cl C X.env) fp) (own.map (·.2)) tg t)
    (ht : ∀ (s : Shared) (H : Hp) (C : Addr) (cl : List (Str × Addr)) (fp : List Addr), GTs (X.blk s H scope (compEnvC scope cl C X.env) fp) ifs mc)
    (he : ∀ (s : Shared) (H : Hp) (C : Addr) (cl : List (Str × Addr)) (fp : List Addr), GE (X.blk s H scope (compEnvC scope cl C X.env) fp) elt me) (hs : ∀ x, foldedSetIterable iter X.env x = pure x := by intro _; rfl) :
    GE X (.ListComp elt [⟨tg, iter, ifs, 0⟩] scope pos) (mLc (own.map (·.2)) t mi mc me) := PE.imp (pe_lc hc hN hi ok hg (fun s H C cl fp => (ht s H C cl fp).h) he hs) fun σ H Q q => tLc_of q
end
end G

set_option Elab.async false
set_option linter.all false
set_option maxRecDepth 100000
set_option maxHeartbeats 4000000
/-! GQ: a dict is no other thing. -/
namespace G
open PySem PySem.Spec PyProof.Rows L2
open AutoSeq1 (wpAny_loadPart')
open MeetsSeq MeetsSeq2 MeetsSeq3 SeqRoads2 SeqAt
section
variable {A : Around} {s : Shared} {a : Addr}
def IsD (s : Shared) (a : Addr) : Prop := ∃ (dd : Option Addr) (es : Array DictEntry) (ep : Nat) (sl : Array (Option Value)), s.heap.get? a = some { cls := .type "dict", dict := dd, data := .dict es ep, slots := sl }
theorem IsD.ty (h : IsD s a) : s.TypeIs (.ref a) "dict" := let ⟨_, _, _, _, e⟩ := h; ⟨_, e, rfl⟩
theorem IsD.ne_list {l : Addr} {items : Array Value} (h : IsD s a) (hl : s.heap.IsList l items) : a ≠ l := fun e => by
  subst e
  obtain ⟨_, _, _, _, e1⟩ := h
  obtain ⟨o, ho, hc, _⟩ := hl
  rw [e1] at ho; cases ho
  exact absurd hc (by simp)
theorem IsD.ne_tuple {l : Addr} {items : Array Value} (h : IsD s a) (hl : s.heap.IsTuple l items) : a ≠ l := fun e => by
  subst e
  obtain ⟨_, _, _, _, e1⟩ := h
  obtain ⟨o, ho, hc, _⟩ := hl
  rw [e1] at ho; cases ho
  exact absurd hc (by simp)
theorem dict_no {prog : Program} {w : World} {E : Value → Shared → Prop} {Q : Value → Shared → Prop} {u : Value} {T id : String} (hs : PySem.Slot "dict" id "dict.__eq__") (ha : IsD s a) (hu : s.TypeIs u T) (hT : isSubtype (.type T) (.type "dict") = pure false) (q : Q .notImplemented s) :
    wpAny (model prog w) A (call (.builtin "dict.__eq__") [.ref a, u]) Q E s := by
  refine wpAny_call_entry hs ha.ty PySem.F.entry_dict_eq ?_ (PySem.F.args_dict_eq_2 _ _)
  show wpAny _ _ (Builtin.Dict.dictSlotArgs "__eq__" ⟨[.ref a, u], []⟩ >>= _) _ _ s
  refine wpAny_bind ?_
  unfold Builtin.Dict.dictSlotArgs
  refine wpAny_bind (wpAny_notOrdered_dict ha.ty ?_)
  show wpAny _ _ (pure (Value.ref a, u)) _ _ s
  refine wpAny_pure ?_
  refine wpAny_bind (wpAny_isInstance (T := T) hu hT ?_)
  simp only [Bool.not_false, if_true]
  exact wpAny_bind (wpAny_rule (wpAny_pure ⟨_, rfl, q⟩))
theorem int_no_b (b : Bool) (dd : Option Addr) (es : Array DictEntry) (ep : Nat) (sl : Array (Option Value)) :
    Meets (Builtin.«int.__eq__» ⟨[.bool b, .ref a], []⟩) (fun _ R s => s.heap.get? a = some { cls := .type "dict", dict := dd, data := .dict es ep, slots := sl } ∧ R (.ok (.ret .notImplemented)) s) :=
  .of_wp fun prog w A R s h => by obtain ⟨hp, g, d, tk, os⟩ := s; obtain ⟨h1, h2⟩ := h; wp_walk using wpAny_loadPart' h1, wpAny_load h1; exact ⟨_, rfl, h2⟩
theorem int_no_i (b : Int) (u : Tok) (dd : Option Addr) (es : Array DictEntry) (ep : Nat) (sl : Array (Option Value)) :
    Meets (Builtin.«int.__eq__» ⟨[.int b u, .ref a], []⟩) (fun _ R s => s.heap.get? a = some { cls := .type "dict", dict := dd, data := .dict es ep, slots := sl } ∧ R (.ok (.ret .notImplemented)) s) :=
  .of_wp fun prog w A R s h => by obtain ⟨hp, g, d, tk, os⟩ := s; obtain ⟨h1, h2⟩ := h; wp_walk using wpAny_loadPart' h1, wpAny_load h1; exact ⟨_, rfl, h2⟩
theorem str_no_d (b : Str) (u : Tok) (dd : Option Addr) (es : Array DictEntry) (ep : Nat) (sl : Array (Option Value)) :
    Meets (Builtin.«str.__eq__» ⟨[.str b u, .ref a], []⟩) (fun _ R s => s.heap.get? a = some { cls := .type "dict", dict := dd, data := .dict es ep, slots := sl } ∧ R (.ok (.ret .notImplemented)) s) :=
  .of_wp fun prog w A R s h => by obtain ⟨hp, g, d, tk, os⟩ := s; obtain ⟨h1, h2⟩ := h; wp_walk using wpAny_loadPart' h1, wpAny_load h1; exact ⟨_, rfl, h2⟩
theorem list_no_d (l : Addr) (items : Array Value) (n : Nat) (d1 : Option Addr) (s1 : Array (Option Value)) (dd : Option Addr) (es : Array DictEntry) (ep : Nat) (sl : Array (Option Value)) :
    Meets (Builtin.«list.__eq__» ⟨[.ref l, .ref a], []⟩) (fun _ R s => s.heap.get? l = some { cls := .type "list", dict := d1, data := .seq items n, slots := s1 } ∧ s.heap.get? a = some { cls := .type "dict", dict := dd, data := .dict es ep, slots := sl } ∧ R (.ok (.ret .notImplemented)) s) :=
  .of_wp fun prog w A R s h => by obtain ⟨hp, g, d, tk, os⟩ := s; obtain ⟨h0, h1, h2⟩ := h; have f1 := F.sub_dict_list; wp_walk using wpAny_loadPart' h0, wpAny_loadPart' h1; exact ⟨_, rfl, h2⟩
theorem tuple_no_d (l : Addr) (items : Array Value) (n : Nat) (d1 : Option Addr) (s1 : Array (Option Value)) (dd : Option Addr) (es : Array DictEntry) (ep : Nat) (sl : Array (Option Value)) :
    Meets (Builtin.«tuple.__eq__» ⟨[.ref l, .ref a], []⟩) (fun _ R s => s.heap.get? l = some { cls := .type "tuple", dict := d1, data := .seq items n, slots := s1 } ∧ s.heap.get? a = some { cls := .type "dict", dict := dd, data := .dict es ep, slots := sl } ∧ R (.ok (.ret .notImplemented)) s) :=
  .of_wp fun prog w A R s h => by obtain ⟨hp, g, d, tk, os⟩ := s; obtain ⟨h0, h1, h2⟩ := h; have f1 := F.sub_dict_tuple; wp_walk using wpAny_loadPart' h0, wpAny_loadPart' h1; exact ⟨_, rfl, h2⟩
/-- from order to truth -/
theorem eqB_ref (c : Addr) {v : Value} (hne : (Value.ref c) ≠ v) (h : RcAt A s (.ref c) v false) : EqAt A s (.ref c) v false := fun prog w E Q hq => by
  unfold eqBool
  refine wpAny_holding (wpAny_ite_split (fun hab => absurd (eq_of_beq hab) hne) (fun _ => ?_))
  exact wpAny_bind (h prog w E _ (wpAny_truthy_bool hq))
theorem eqB_none  {v : Value} (hne : (Value.none) ≠ v) (h : RcAt A s .none v false) : EqAt A s .none v false := fun prog w E Q hq => by
  unfold eqBool
  refine wpAny_holding (wpAny_ite_split (fun hab => absurd (eq_of_beq hab) hne) (fun _ => ?_))
  exact wpAny_bind (h prog w E _ (wpAny_truthy_bool hq))
theorem eqB_bool (c : Bool) {v : Value} (hne : (Value.bool c) ≠ v) (h : RcAt A s (.bool c) v false) : EqAt A s (.bool c) v false := fun prog w E Q hq => by
  unfold eqBool
  refine wpAny_holding (wpAny_ite_split (fun hab => absurd (eq_of_beq hab) hne) (fun _ => ?_))
  exact wpAny_bind (h prog w E _ (wpAny_truthy_bool hq))
theorem eqB_int (c : Int) (t : Tok) {v : Value} (hne : (Value.int c t) ≠ v) (h : RcAt A s (.int c t) v false) : EqAt A s (.int c t) v false := fun prog w E Q hq => by
  unfold eqBool
  refine wpAny_holding (wpAny_ite_split (fun hab => absurd (eq_of_beq hab) hne) (fun _ => ?_))
  exact wpAny_bind (h prog w E _ (wpAny_truthy_bool hq))
theorem eqB_str (c : Str) (t : Tok) {v : Value} (hne : (Value.str c t) ≠ v) (h : RcAt A s (.str c t) v false) : EqAt A s (.str c t) v false := fun prog w E Q hq => by
  unfold eqBool
  refine wpAny_holding (wpAny_ite_split (fun hab => absurd (eq_of_beq hab) hne) (fun _ => ?_))
  exact wpAny_bind (h prog w E _ (wpAny_truthy_bool hq))
theorem dict_noN {prog : Program} {w : World} {E : Value → Shared → Prop} {Q : Value → Shared → Prop} {u : Value} {T id : String} (hs : PySem.Slot "dict" id "dict.__ne__") (ha : IsD s a) (hu : s.TypeIs u T) (hT : isSubtype (.type T) (.type "dict") = pure false) (q : Q .notImplemented s) :
    wpAny (model prog w) A (call (.builtin "dict.__ne__") [.ref a, u]) Q E s := by
  refine wpAny_call_entry hs ha.ty PySem.F.entry_dict_ne ?_ (PySem.F.args_dict_ne_2 _ _)
  show wpAny _ _ (Builtin.Dict.dictSlotArgs "__ne__" ⟨[.ref a, u], []⟩ >>= _) _ _ s
  refine wpAny_bind ?_
  unfold Builtin.Dict.dictSlotArgs
  refine wpAny_bind (wpAny_notOrdered_dict ha.ty ?_)
  show wpAny _ _ (pure (Value.ref a, u)) _ _ s
  refine wpAny_pure ?_
  refine wpAny_bind (wpAny_isInstance (T := T) hu hT ?_)
  simp only [Bool.not_false, if_true]
  exact wpAny_bind (wpAny_rule (wpAny_pure ⟨_, rfl, q⟩))
theorem tuple_noN_d (l : Addr) (items : Array Value) (n : Nat) (d1 : Option Addr) (s1 : Array (Option Value)) (dd : Option Addr) (es : Array DictEntry) (ep : Nat) (sl : Array (Option Value)) :
    Meets (Builtin.«tuple.__ne__» ⟨[.ref l, .ref a], []⟩) (fun _ R s => s.heap.get? l = some { cls := .type "tuple", dict := d1, data := .seq items n, slots := s1 } ∧ s.heap.get? a = some { cls := .type "dict", dict := dd, data := .dict es ep, slots := sl } ∧ R (.ok (.ret .notImplemented)) s) :=
  .of_wp fun prog w A R s h => by obtain ⟨hp, g, d, tk, os⟩ := s; obtain ⟨h0, h1, h2⟩ := h; have f1 := F.sub_dict_tuple; wp_walk using wpAny_loadPart' h0, wpAny_loadPart' h1; exact ⟨_, rfl, h2⟩
variable (ha : IsD s a) (hu : A.units < cLine)
include ha hu
theorem rcN_dT {l : Addr} {items : Array Value} (hl : s.heap.IsTuple l items) : RcNeAt A s (.ref a) (.ref l) true := fun prog w E Q h => by
  have hne := ha.ne_tuple hl
  obtain ⟨dd, es, ep, sl, e⟩ := id ha
  obtain ⟨⟨cls, d1, data, s1⟩, ho, hc, n, hd⟩ := id hl
  simp only at hc hd
  subst hc hd
  exact rc_ne_decline_or (k := false) ha.ty ⟨_, ho, rfl⟩ (by decide) F.sub_tuple_dict F.slot_dict_ne F.slot_tuple_ne_refl
    (fun _ hq => dict_noN F.slot_dict_ne ha ⟨_, ho, rfl⟩ F.sub_tuple_dict hq) (fun _ hq => call_meets F.slot_tuple_ne_refl ⟨_, ho, rfl⟩ F.entry_tuple_ne (F.args_tuple_ne_2 _ _) (tuple_noN_d l items n d1 s1 dd es ep sl) ⟨ho, e, hq⟩)
    (fun _ hq => wpAny_isSame_ref_other hne e ho (by simp) hq) (.inr hu) h
theorem rcN_Td {l : Addr} {items : Array Value} (hl : s.heap.IsTuple l items) : RcNeAt A s (.ref l) (.ref a) true := fun prog w E Q h => by
  have hne := ha.ne_tuple hl
  obtain ⟨dd, es, ep, sl, e⟩ := id ha
  obtain ⟨⟨cls, d1, data, s1⟩, ho, hc, n, hd⟩ := id hl
  simp only at hc hd
  subst hc hd
  exact rc_ne_decline_or (k := false) ⟨_, ho, rfl⟩ ha.ty (by decide) F.sub_dict_tuple F.slot_tuple_ne F.slot_dict_ne_refl
    (fun _ hq => call_meets F.slot_tuple_ne ⟨_, ho, rfl⟩ F.entry_tuple_ne (F.args_tuple_ne_2 _ _) (tuple_noN_d l items n d1 s1 dd es ep sl) ⟨ho, e, hq⟩) (fun _ hq => dict_noN F.slot_dict_ne_refl ha ⟨_, ho, rfl⟩ F.sub_tuple_dict hq)
    (fun _ hq => wpAny_isSame_ref_other' hne.symm ho e (by simp) hq) (.inr hu) h
theorem rc_dN : RcAt A s (.ref a) .none false := fun prog w E Q h => by
  obtain ⟨dd, es, ep, sl, e⟩ := id ha
  exact rc_eq_decline_or (k := false) ha.ty rfl (by decide) F.sub_NoneType_dict F.slot_dict_eq F.slot_NoneType_eq_refl
    (fun _ hq => dict_no F.slot_dict_eq ha rfl F.sub_NoneType_dict hq) (fun _ hq => call_gives F.slot_NoneType_eq_refl rfl F.entry_NoneType_eq (F.args_NoneType_eq_2 _ _) (NoneType___eq___none_ref_0 a) hq)
    (fun _ hq => wpAny_of_eq (rfl : isSame (.ref a) .none = pure false) hq) (.inr hu) h
theorem rc_Nd : RcAt A s .none (.ref a) false := fun prog w E Q h => by
  exact rc_eq_decline_or (k := false) rfl ha.ty (by decide) F.sub_dict_NoneType F.slot_NoneType_eq F.slot_dict_eq_refl
    (fun _ hq => call_gives F.slot_NoneType_eq rfl F.entry_NoneType_eq (F.args_NoneType_eq_2 _ _) (NoneType___eq___none_ref_0 a) hq) (fun _ hq => dict_no F.slot_dict_eq_refl ha rfl F.sub_NoneType_dict hq)
    (fun _ hq => wpAny_of_eq (rfl : isSame .none (.ref a) = pure false) hq) (.inr hu) h
theorem rc_dB (b : Bool) : RcAt A s (.ref a) (.bool b) false := fun prog w E Q h => by
  obtain ⟨dd, es, ep, sl, e⟩ := id ha
  exact rc_eq_decline_or (k := false) ha.ty rfl (by decide) F.sub_bool_dict F.slot_dict_eq F.slot_bool_eq_refl
    (fun _ hq => dict_no F.slot_dict_eq ha rfl F.sub_bool_dict hq) (fun _ hq => call_meets F.slot_bool_eq_refl rfl F.entry_int_eq (F.args_int_eq_2 _ _) (int_no_b b dd es ep sl) ⟨e, hq⟩)
    (fun _ hq => wpAny_of_eq (rfl : isSame (.ref a) (.bool b) = pure false) hq) (.inr hu) h
theorem rc_Bd (b : Bool) : RcAt A s (.bool b) (.ref a) false := fun prog w E Q h => by
  obtain ⟨dd, es, ep, sl, e⟩ := id ha
  exact rc_eq_decline_or (k := false) rfl ha.ty (by decide) F.sub_dict_bool F.slot_bool_eq F.slot_dict_eq_refl
    (fun _ hq => call_meets F.slot_bool_eq rfl F.entry_int_eq (F.args_int_eq_2 _ _) (int_no_b b dd es ep sl) ⟨e, hq⟩) (fun _ hq => dict_no F.slot_dict_eq_refl ha rfl F.sub_bool_dict hq)
    (fun _ hq => wpAny_of_eq (rfl : isSame (.bool b) (.ref a) = pure false) hq) (.inr hu) h
theorem rc_dI (b : Int) (u : Tok) : RcAt A s (.ref a) (.int b u) false := fun prog w E Q h => by
  obtain ⟨dd, es, ep, sl, e⟩ := id ha
  exact rc_eq_decline_or (k := false) ha.ty (typeIs_int s b u) (by decide) F.sub_int_dict F.slot_dict_eq F.slot_int_eq_refl
    (fun _ hq => dict_no F.slot_dict_eq ha (typeIs_int s b u) F.sub_int_dict hq) (fun _ hq => call_meets F.slot_int_eq_refl (typeIs_int s b u) F.entry_int_eq (F.args_int_eq_2 _ _) (int_no_i b u dd es ep sl) ⟨e, hq⟩)
    (fun _ hq => wpAny_of_eq (rfl : isSame (.ref a) (.int b u) = pure false) hq) (.inr hu) h
theorem rc_Id (b : Int) (u : Tok) : RcAt A s (.int b u) (.ref a) false := fun prog w E Q h => by
  obtain ⟨dd, es, ep, sl, e⟩ := id ha
  exact rc_eq_decline_or (k := false) (typeIs_int s b u) ha.ty (by decide) F.sub_dict_int F.slot_int_eq F.slot_dict_eq_refl
    (fun _ hq => call_meets F.slot_int_eq (typeIs_int s b u) F.entry_int_eq (F.args_int_eq_2 _ _) (int_no_i b u dd es ep sl) ⟨e, hq⟩) (fun _ hq => dict_no F.slot_dict_eq_refl ha (typeIs_int s b u) F.sub_int_dict hq)
    (fun _ hq => wpAny_of_eq (rfl : isSame (.int b u) (.ref a) = pure false) hq) (.inr hu) h
theorem rc_dS (b : Str) (u : Tok) : RcAt A s (.ref a) (.str b u) false := fun prog w E Q h => by
  obtain ⟨dd, es, ep, sl, e⟩ := id ha
  exact rc_eq_decline_or (k := false) ha.ty (typeIs_str s b u) (by decide) F.sub_str_dict F.slot_dict_eq F.slot_str_eq_refl
    (fun _ hq => dict_no F.slot_dict_eq ha (typeIs_str s b u) F.sub_str_dict hq) (fun _ hq => call_meets F.slot_str_eq_refl (typeIs_str s b u) F.entry_str_eq (F.args_str_eq_2 _ _) (str_no_d b u dd es ep sl) ⟨e, hq⟩)
    (fun _ hq => wpAny_of_eq (rfl : isSame (.ref a) (.str b u) = pure false) hq) (.inr hu) h
theorem rc_Sd (b : Str) (u : Tok) : RcAt A s (.str b u) (.ref a) false := fun prog w E Q h => by
  obtain ⟨dd, es, ep, sl, e⟩ := id ha
  exact rc_eq_decline_or (k := false) (typeIs_str s b u) ha.ty (by decide) F.sub_dict_str F.slot_str_eq F.slot_dict_eq_refl
    (fun _ hq => call_meets F.slot_str_eq (typeIs_str s b u) F.entry_str_eq (F.args_str_eq_2 _ _) (str_no_d b u dd es ep sl) ⟨e, hq⟩) (fun _ hq => dict_no F.slot_dict_eq_refl ha (typeIs_str s b u) F.sub_str_dict hq)
    (fun _ hq => wpAny_of_eq (rfl : isSame (.str b u) (.ref a) = pure false) hq) (.inr hu) h
theorem rc_dL {l : Addr} {items : Array Value} (hl : s.heap.IsList l items) : RcAt A s (.ref a) (.ref l) false := fun prog w E Q h => by
  have hne := ha.ne_list hl
  obtain ⟨dd, es, ep, sl, e⟩ := id ha
  obtain ⟨⟨cls, d1, data, s1⟩, ho, hc, n, hd⟩ := id hl
  simp only at hc hd
  subst hc hd
  exact rc_eq_decline_or (k := false) ha.ty ⟨_, ho, rfl⟩ (by decide) F.sub_list_dict F.slot_dict_eq F.slot_list_eq_refl
    (fun _ hq => dict_no F.slot_dict_eq ha ⟨_, ho, rfl⟩ F.sub_list_dict hq) (fun _ hq => call_meets F.slot_list_eq_refl ⟨_, ho, rfl⟩ F.entry_list_eq (F.args_list_eq_2 _ _) (list_no_d l items n d1 s1 dd es ep sl) ⟨ho, e, hq⟩)
    (fun _ hq => wpAny_isSame_ref_other hne e ho (by simp) hq) (.inr hu) h
theorem rc_Ld {l : Addr} {items : Array Value} (hl : s.heap.IsList l items) : RcAt A s (.ref l) (.ref a) false := fun prog w E Q h => by
  have hne := ha.ne_list hl
  obtain ⟨dd, es, ep, sl, e⟩ := id ha
  obtain ⟨⟨cls, d1, data, s1⟩, ho, hc, n, hd⟩ := id hl
  simp only at hc hd
  subst hc hd
  exact rc_eq_decline_or (k := false) ⟨_, ho, rfl⟩ ha.ty (by decide) F.sub_dict_list F.slot_list_eq F.slot_dict_eq_refl
    (fun _ hq => call_meets F.slot_list_eq ⟨_, ho, rfl⟩ F.entry_list_eq (F.args_list_eq_2 _ _) (list_no_d l items n d1 s1 dd es ep sl) ⟨ho, e, hq⟩) (fun _ hq => dict_no F.slot_dict_eq_refl ha ⟨_, ho, rfl⟩ F.sub_list_dict hq)
    (fun _ hq => wpAny_isSame_ref_other hne.symm ho e (by simp) hq) (.inr hu) h
theorem rc_dT {l : Addr} {items : Array Value} (hl : s.heap.IsTuple l items) : RcAt A s (.ref a) (.ref l) false := fun prog w E Q h => by
  have hne := ha.ne_tuple hl
  obtain ⟨dd, es, ep, sl, e⟩ := id ha
  obtain ⟨⟨cls, d1, data, s1⟩, ho, hc, n, hd⟩ := id hl
  simp only at hc hd
  subst hc hd
  exact rc_eq_decline_or (k := false) ha.ty ⟨_, ho, rfl⟩ (by decide) F.sub_tuple_dict F.slot_dict_eq F.slot_tuple_eq_refl
    (fun _ hq => dict_no F.slot_dict_eq ha ⟨_, ho, rfl⟩ F.sub_tuple_dict hq) (fun _ hq => call_meets F.slot_tuple_eq_refl ⟨_, ho, rfl⟩ F.entry_tuple_eq (F.args_tuple_eq_2 _ _) (tuple_no_d l items n d1 s1 dd es ep sl) ⟨ho, e, hq⟩)
    (fun _ hq => wpAny_isSame_ref_other hne e ho (by simp) hq) (.inr hu) h
theorem rc_Td {l : Addr} {items : Array Value} (hl : s.heap.IsTuple l items) : RcAt A s (.ref l) (.ref a) false := fun prog w E Q h => by
  have hne := ha.ne_tuple hl
  obtain ⟨dd, es, ep, sl, e⟩ := id ha
  obtain ⟨⟨cls, d1, data, s1⟩, ho, hc, n, hd⟩ := id hl
  simp only at hc hd
  subst hc hd
  exact rc_eq_decline_or (k := false) ⟨_, ho, rfl⟩ ha.ty (by decide) F.sub_dict_tuple F.slot_tuple_eq F.slot_dict_eq_refl
    (fun _ hq => call_meets F.slot_tuple_eq ⟨_, ho, rfl⟩ F.entry_tuple_eq (F.args_tuple_eq_2 _ _) (tuple_no_d l items n d1 s1 dd es ep sl) ⟨ho, e, hq⟩) (fun _ hq => dict_no F.slot_dict_eq_refl ha ⟨_, ho, rfl⟩ F.sub_tuple_dict hq)
    (fun _ hq => wpAny_isSame_ref_other' hne.symm ho e (by simp) hq) (.inr hu) h
end
end G

set_option Elab.async false
set_option linter.all false
set_option maxRecDepth 100000
set_option maxHeartbeats 4000000
/-! GE: == and != of data of any depth. -/
namespace G
variable [Wld]
open PySem PySem.Spec PyProof.Rows L2
mutual
/-- no object that may change, no def -/
def datB : D → Bool
  | .non => true
  | .bl _ => true
  | .int _ => true
  | .str _ => true
  | .tup ds => datsB ds
  | .lst ds => datsB ds
  | .dic _ ds => datsB ds
  | .ref _ => false
  | .fn _ => false
  | .exc _ _ _ => false
def datsB : List D → Bool
  | [] => true
  | d :: ds => datB d && datsB ds
end
theorem datsB_all : ∀ ds : List D, datsB ds = ds.all datB
  | [] => rfl
  | d :: ds => by rw [datsB, datsB_all ds]; rfl
/-- scalars -/
def flat : D → Bool
  | .non => true
  | .bl _ => true
  | .int _ => true
  | .str _ => true
  | _ => false
def eqS : D → D → Bool
  | .non, .non => true
  | .bl a, .bl b => a == b
  | .bl a, .int b => (if a then 1 else 0) == b
  | .int a, .bl b => a == (if b then 1 else 0)
  | .int a, .int b => a == b
  | .str a, .str b => a == b
  | _, _ => false
/-- part by part -/
def zipF (f : D → D → Option Bool) : List D → List D → Option Bool
  | x :: xs, y :: ys => match f x y, zipF f xs ys with
    | some a, some b => some (a && b)
    | _, _ => none
  | _, _ => some true
/-- ==; of two dicts, and too deep, nothing is told -/
def deq : Nat → D → D → Option Bool
  | n + 1, .tup xs, .tup ys => (zipF (deq n) xs ys).map fun b => b && xs.length == ys.length
  | n + 1, .lst xs, .lst ys => if xs.length = ys.length then zipF (deq n) xs ys else some false
  | 0, .tup _, .tup _ => none
  | 0, .lst _, .lst _ => none
  | _, .dic _ _, .dic _ _ => none
  | _, x, y => some (eqS x y)
section
variable {K : PySem.W.Frag} {H : Hp} {ι : List Addr} {X : Cx} {pins : List (Addr × PySem.Obj)} {σ : SV} {s : Shared}
theorem IsD.of (I : Inv X pins σ H s) {a : Addr} {o : PySem.Obj} {ws : List (Key × V)} (h : H a = some (.frz o (.dK ws))) : IsD s a := by
  obtain ⟨_, _, vs, _, ob, es, ep, e, hx, hd, _⟩ := dk_rd I.hok (.inr ⟨o, h⟩)
  obtain ⟨cls, dd, data, sl⟩ := ob
  obtain ⟨h1, h2, h3⟩ := hx
  simp only at h1 h2 h3 hd
  subst h1 h2 h3 hd
  exact ⟨_, _, _, _, e⟩
theorem LF.isL (I : Inv X pins σ H s) {a : Addr} {xs : List V} (h : LF X.K H a xs) : ∃ its, Vals xs its ∧ s.heap.IsList a its.toArray := by
  obtain ⟨its, r, p, _⟩ := I.list h.sq
  exact ⟨its, r, p.isList⟩
theorem Vals.at {xs : List V} {us : List Value} (h : Vals xs us) : ∀ {j : Nat} {u : Value}, us[j]? = some u → ∃ v, xs[j]? = some v ∧ RelV v u := by
  induction h with
  | nil => intro j u e; simp at e
  | cons h1 _ ih =>
    intro j u e
    cases j with
    | zero => simp at e; subst e; exact ⟨_, rfl, h1⟩
    | succ j => exact ih (by simpa using e)
theorem isTup_same {h : Heap} {a : Addr} {i j : List Value} (p : IsTup h a i.toArray) (q : IsTup h a j.toArray) : i = j := by
  obtain ⟨o, e1, _, n, d1⟩ := p
  obtain ⟨o', e2, _, n', d2⟩ := q
  rw [e1] at e2; cases e2
  rw [d1] at d2
  injection d2 with d2
  simpa using d2
mutual
/-- a value is one data -/
theorem RD.det (I : Inv X pins σ H s) : ∀ (d d' : D) (v : V), datB d = true → datB d' = true → RD X.K H ι v d → RD X.K H ι v d' → d = d'
  | .non, d', _, _, h2, r, r' => by cases r; cases r' <;> rfl
  | .bl b, d', _, _, h2, r, r' => by cases r; cases r' <;> rfl
  | .int b, d', _, _, h2, r, r' => by cases r; cases r' <;> rfl
  | .str b, d', _, _, h2, r, r' => by cases r; cases r' <;> rfl
  | .ref _, _, _, h1, _, _, _ => by cases h1
  | .fn _, _, _, h1, _, _, _ => by cases h1
  | .tup ds, d', _, h1, h2, r, r' => by
    cases r with | tup g1 g2 =>
    obtain ⟨its, rv, p, _⟩ := I.tuple g1
    cases r' with
    | tup g3 g4 =>
      obtain ⟨its', rv', p', _⟩ := I.tuple g3
      have := isTup_same p p'
      subst this
      have := Vals.inj rv rv'
      subst this
      rw [RDs.det I ds _ _ (by simpa [datB] using h1) (by simpa [datB] using h2) g2 g4]
    | lst g3 g4 =>
      obtain ⟨its', rv', p'⟩ := LF.isL I g3
      exact (SeqAt.ne_of_list_tuple p' p rfl).elim
    | dic g3 _ _ => exact ((IsD.of I g3).ne_tuple p rfl).elim
    | ref _ => cases h2
    | fn _ => cases h2
    | exc _ => cases h2
  | .lst ds, d', _, h1, h2, r, r' => by
    cases r with | lst g1 g2 =>
    obtain ⟨its, rv, p⟩ := LF.isL I g1
    cases r' with
    | tup g3 g4 =>
      obtain ⟨its', rv', p', _⟩ := I.tuple g3
      exact (SeqAt.ne_of_list_tuple p p' rfl).elim
    | lst g3 g4 =>
      have := I.list_inj g1.sq g3.sq
      subst this
      rw [RDs.det I ds _ _ (by simpa [datB] using h1) (by simpa [datB] using h2) g2 g4]
    | dic g3 _ _ => exact ((IsD.of I g3).ne_list p rfl).elim
    | ref _ => cases h2
    | fn _ => cases h2
    | exc _ => cases h2
  | .dic ks ds, d', _, h1, h2, r, r' => by
    cases r with | dic g1 e1 g2 =>
    cases r' with
    | tup g3 g4 =>
      obtain ⟨its', rv', p', _⟩ := I.tuple g3
      exact ((IsD.of I g1).ne_tuple p' rfl).elim
    | lst g3 g4 =>
      obtain ⟨its', rv', p'⟩ := LF.isL I g3
      exact ((IsD.of I g1).ne_list p' rfl).elim
    | dic g3 e3 g4 =>
      rename_i xs _ xs' ks' ds'
      rw [g1] at g3
      have e := Option.some.inj g3
      injection e with _ e
      injection e with e
      have l1 := g2.length
      have l2 := g4.length
      have a1 : ks = ks' := by
        have := congrArg (List.map Prod.fst) e
        rwa [List.map_fst_zip (by omega), List.map_fst_zip (by omega)] at this
      subst a1
      have a2 : xs = xs' := by
        have := congrArg (List.map Prod.snd) e
        rwa [List.map_snd_zip (by omega), List.map_snd_zip (by omega)] at this
      subst a2
      rw [RDs.det I ds _ _ (by simpa [datB] using h1) (by simpa [datB] using h2) g2 g4]
    | ref _ => cases h2
    | fn _ => cases h2
    | exc _ => cases h2
theorem RDs.det (I : Inv X pins σ H s) : ∀ (ds ds' : List D) (vs : List V), datsB ds = true → datsB ds' = true → RDs X.K H ι vs ds → RDs X.K H ι vs ds' → ds = ds'
  | [], _, _, _, _, r, r' => by cases r; cases r'; rfl
  | d :: ds, _, _, h1, h2, r, r' => by
    cases r with | cons g1 g2 =>
    cases r' with | cons g3 g4 =>
    rw [datsB, Bool.and_eq_true] at h1 h2
    rw [RD.det I d _ _ h1.1 h2.1 g1 g3, RDs.det I ds _ _ h1.2 h2.2 g2 g4]
end
theorem zipF_same {f : D → D → Option Bool} : ∀ {ds : List D} {b : Bool}, (∀ d ∈ ds, ∀ b, f d d = some b → b = true) → zipF f ds ds = some b → b = true
  | [], b, _, h => by cases h; rfl
  | d :: ds, b, w, h => by
    unfold zipF at h
    split at h
    · rename_i a c h1 h2
      cases h
      rw [w d (by simp) _ h1, zipF_same (fun x hx => w x (by simp [hx])) h2]; rfl
    · cases h
theorem deq_same : ∀ {n : Nat} {d : D} {b : Bool}, datB d = true → deq n d d = some b → b = true
  | n, .non, b, _, h => by cases n <;> (unfold deq at h; cases h; rfl)
  | n, .bl x, b, _, h => by cases n <;> (unfold deq at h; cases h; simp [eqS])
  | n, .int x, b, _, h => by cases n <;> (unfold deq at h; cases h; simp [eqS])
  | n, .str x, b, _, h => by cases n <;> (unfold deq at h; cases h; simp [eqS])
  | 0, .tup ds, b, _, h => by cases h
  | n + 1, .tup ds, b, hd, h => by
    unfold deq at h
    obtain ⟨c, h1, h2⟩ := Option.map_eq_some_iff.mp h
    subst h2
    have hd' := datsB_all ds ▸ (show datsB ds = true by simpa [datB] using hd)
    rw [zipF_same (fun d hm b hb => deq_same (List.all_eq_true.mp hd' d hm) hb) h1]
    simp
  | 0, .lst ds, b, _, h => by cases h
  | n + 1, .lst ds, b, hd, h => by
    unfold deq at h
    rw [if_pos rfl] at h
    have hd' := datsB_all ds ▸ (show datsB ds = true by simpa [datB] using hd)
    exact zipF_same (fun d hm b hb => deq_same (List.all_eq_true.mp hd' d hm) hb) h
  | n, .dic ks ds, b, _, h => by cases n <;> cases h
  | _, .ref _, _, hd, _ => by cases hd
  | _, .fn _, _, hd, _ => by cases hd
theorem zipF_at {f : D → D → Option Bool} : ∀ {xs ys : List D} {b : Bool}, zipF f xs ys = some b → ∃ e : Nat → Bool, (∀ j x y, xs[j]? = some x → ys[j]? = some y → f x y = some (e j)) ∧ b = (List.range (min xs.length ys.length)).all e
  | [], _, b, h => by cases h; exact ⟨fun _ => true, fun j x y e => by simp at e, by simp⟩
  | _ :: _, [], b, h => by cases h; exact ⟨fun _ => true, fun j x y _ e => by simp at e, by simp⟩
  | x :: xs, y :: ys, b, h => by
    unfold zipF at h
    split at h
    · rename_i a c h1 h2
      cases h
      obtain ⟨e, g1, g2⟩ := zipF_at h2
      refine ⟨fun j => match j with | 0 => a | j + 1 => e j, fun j u v hu hv => ?_, ?_⟩
      · cases j with
        | zero => simp at hu hv; subst hu hv; exact h1
        | succ j => exact g1 j u v (by simpa using hu) (by simpa using hv)
      · rw [g2, List.length_cons, List.length_cons, Nat.succ_min_succ, List.range_succ_eq_map, List.all_cons, List.all_map]
        rfl
    · cases h
theorem RDs.items {xs : List V} {ds : List D} {us : List Value} (h : RDs K H ι xs ds) (r : Vals xs us) : us.length = ds.length ∧ ∀ {j : Nat} {u : Value}, us[j]? = some u → ∃ v d, ds[j]? = some d ∧ RelV v u ∧ RD K H ι v d := by
  refine ⟨by rw [← r.length, h.length], fun {j u} e => ?_⟩
  obtain ⟨v, hv, rv⟩ := Vals.at r e
  have hl := (List.getElem?_eq_some_iff.mp hv).1
  rw [h.length] at hl
  obtain ⟨v', hv', rd⟩ := h.get (List.getElem?_eq_getElem hl)
  rw [hv] at hv'; cases hv'
  exact ⟨v, _, List.getElem?_eq_getElem hl, rv, rd⟩
/-- what == tells, from above -/
inductive Kin (X : Cx) (H : Hp) (ι : List Addr) (s : Shared) (n : Nat) (A : Around) (neg : Bool) (u v : Value) (b : Bool) : Prop
  | mk : (neg = false → SeqAt.RcAt A s u v b) → (neg = true → SeqAt.RcNeAt A s u v (!b)) → Kin X H ι s n A neg u v b
def isDic : D → Bool
  | .dic _ _ => true
  | _ => false
def isTupD : D → Bool
  | .tup _ => true
  | _ => false
/-- != of a dict is told beside a tuple alone -/
def neOk (neg : Bool) (x y : D) : Bool := !neg || (!isDic x || isTupD y) && (!isDic y || isTupD x)
/-- an object read where it stands -/
def RDw (K : PySem.W.Frag) (H : Hp) (ι : List Addr) (v : V) (d : D) : Prop := RD K H ι v d ∨ ∃ a xs ds, v = .ref a ∧ d = .lst ds ∧ SqL K H a xs ∧ RDs K H ι xs ds
theorem RDw.lst {K : PySem.W.Frag} {H : Hp} {ι : List Addr} {v : V} {ds : List D} (h : RDw K H ι v (.lst ds)) : ∃ a xs, v = .ref a ∧ SqL K H a xs ∧ RDs K H ι xs ds := by
  rcases h with h | ⟨a, xs, ds', h1, h2, h3, h4⟩
  · cases h with | lst g1 g2 => exact ⟨_, _, rfl, g1.sq, g2⟩
  · cases h2; exact ⟨a, xs, h1, h3, h4⟩
theorem RDw.tup {K : PySem.W.Frag} {H : Hp} {ι : List Addr} {v : V} {ds : List D} (h : RDw K H ι v (.tup ds)) : ∃ a xs, v = .ref a ∧ SqT K H a xs ∧ RDs K H ι xs ds := by
  rcases h with h | ⟨a, xs, ds', h1, h2, h3, h4⟩
  · cases h with | tup g1 g2 => exact ⟨_, _, rfl, g1, g2⟩
  · cases h2
def RcP (X : Cx) (H : Hp) (ι : List Addr) (s : Shared) (n : Nat) : Prop := ∀ (A : Around) (neg : Bool) (x y : D) (b : Bool) (vx vy : V) (u v : Value), A.units + n < cLine → datB x = true → datB y = true → neOk neg x y = true → RDw X.K H ι vx x → RDw X.K H ι vy y → RelV vx u → RelV vy v → deq n x y = some b →
    (neg = false → SeqAt.RcAt A s u v b) ∧ (neg = true → SeqAt.RcNeAt A s u v (!b))
def AtP (X : Cx) (H : Hp) (ι : List Addr) (s : Shared) (n : Nat) : Prop := ∀ (A : Around) (x y : D) (b : Bool) (vx vy : V) (u v : Value), A.units + n < cLine → datB x = true → datB y = true → RD X.K H ι vx x → RD X.K H ι vy y → RelV vx u → RelV vy v → deq n x y = some b → SeqAt.EqAt A s u v b
/-- what stands there -/
inductive Sh (s : Shared) : Value → D → Prop
  | non : Sh s .none .non
  | bl (b : Bool) : Sh s (.bool b) (.bl b)
  | int (i : Int) (t : Tok) : Sh s (.int i t) (.int i)
  | str (x : Str) (t : Tok) : Sh s (.str x t) (.str x)
  | tup {a : Addr} {its : Array Value} {ds : List D} : s.heap.IsTuple a its → Sh s (.ref a) (.tup ds)
  | lst {a : Addr} {its : Array Value} {ds : List D} : s.heap.IsList a its → Sh s (.ref a) (.lst ds)
  | dic {a : Addr} {ks : List Key} {ds : List D} : IsD s a → Sh s (.ref a) (.dic ks ds)
theorem RDw.sh (I : Inv X pins σ H s) {v : V} {u : Value} {d : D} (h : RDw X.K H ι v d) (r : RelV v u) (hd : datB d = true) : Sh s u d := by
  rcases h with h | ⟨a, xs, ds, rfl, rfl, h1, h2⟩
  rotate_left
  · cases r
    obtain ⟨its, _, p, _⟩ := I.list h1
    exact .lst p.isList
  cases h with
  | non => cases r; exact .non
  | bl b => cases r; exact .bl b
  | int i => obtain ⟨t, rfl⟩ := r; exact .int i t
  | str x => obtain ⟨t, rfl⟩ := r; exact .str x t
  | tup g1 g2 => cases r; obtain ⟨its, _, p, _⟩ := I.tuple g1; exact .tup p
  | lst g1 g2 => cases r; obtain ⟨its, _, p⟩ := LF.isL I g1; exact .lst p
  | dic g1 _ _ => cases r; exact .dic (IsD.of I g1)
  | ref _ => cases hd
  | fn _ => cases hd
  | exc _ => cases hd
def unlike : D → D → Bool
  | .tup _, .tup _ => false
  | .lst _, .lst _ => false
  | .dic _ _, .dic _ _ => false
  | _, _ => true
theorem rc_unlike {A : Around} {u v : Value} {x y : D} (hu : A.units < cLine) (hx : Sh s u x) (hy : Sh s v y) (hn : unlike x y = true) : SeqAt.RcAt A s u v (eqS x y) := by
  cases hx with
  | non =>
    cases hy with
    | non => exact SeqAt.RcAt.none_none
    | bl b2 => exact SeqAt.RcAt.none_bool _
    | int i2 t2 => exact SeqAt.RcAt.none_int _ _
    | str z2 t2 => exact SeqAt.RcAt.none_str _ _
    | tup p2 => exact SeqAt.RcAt.none_tuple p2 hu
    | lst p2 => exact SeqAt.RcAt.none_list p2 hu
    | dic p2 => exact rc_Nd p2 hu
  | bl b =>
    cases hy with
    | non => exact SeqAt.RcAt.bool_none _
    | bl b2 => exact SeqAt.RcAt.bool_bool _ _
    | int i2 t2 => exact SeqAt.RcAt.bool_int _ _ _
    | str z2 t2 => exact SeqAt.RcAt.bool_str _ _ _
    | tup p2 => exact SeqAt.RcAt.bool_tuple _ p2 hu
    | lst p2 => exact SeqAt.RcAt.bool_list _ p2 hu
    | dic p2 => exact rc_Bd p2 hu _
  | int i t =>
    cases hy with
    | non => exact SeqAt.RcAt.int_none _ _
    | bl b2 => exact SeqAt.RcAt.int_bool _ _ _
    | int i2 t2 => exact SeqAt.RcAt.int_int _ _ _ _
    | str z2 t2 => exact SeqAt.RcAt.int_str _ _ _ _
    | tup p2 => exact SeqAt.RcAt.int_tuple _ _ p2 hu
    | lst p2 => exact SeqAt.RcAt.int_list _ _ p2 hu
    | dic p2 => exact rc_Id p2 hu _ _
  | str z t =>
    cases hy with
    | non => exact SeqAt.RcAt.str_none _ _
    | bl b2 => exact SeqAt.RcAt.str_bool _ _ _
    | int i2 t2 => exact SeqAt.RcAt.str_int _ _ _ _
    | str z2 t2 => exact SeqAt.RcAt.str_str _ _ _ _
    | tup p2 => exact SeqAt.RcAt.str_tuple _ _ p2 hu
    | lst p2 => exact SeqAt.RcAt.str_list _ _ p2 hu
    | dic p2 => exact rc_Sd p2 hu _ _
  | tup p =>
    cases hy with
    | non => exact SeqAt.RcAt.tuple_none p hu
    | bl b2 => exact SeqAt.RcAt.tuple_bool _ p hu
    | int i2 t2 => exact SeqAt.RcAt.tuple_int _ _ p hu
    | str z2 t2 => exact SeqAt.RcAt.tuple_str _ _ p hu
    | tup p2 => cases hn
    | lst p2 => exact SeqAt.RcAt.tuple_list p p2 hu
    | dic p2 => exact rc_Td p2 hu p
  | lst p =>
    cases hy with
    | non => exact SeqAt.RcAt.list_none p hu
    | bl b2 => exact SeqAt.RcAt.list_bool _ p hu
    | int i2 t2 => exact SeqAt.RcAt.list_int _ _ p hu
    | str z2 t2 => exact SeqAt.RcAt.list_str _ _ p hu
    | tup p2 => exact SeqAt.RcAt.list_tuple p p2 hu
    | lst p2 => cases hn
    | dic p2 => exact rc_Ld p2 hu p
  | dic p =>
    cases hy with
    | non => exact rc_dN p hu
    | bl b2 => exact rc_dB p hu _
    | int i2 t2 => exact rc_dI p hu _ _
    | str z2 t2 => exact rc_dS p hu _ _
    | tup p2 => exact rc_dT p hu p2
    | lst p2 => exact rc_dL p hu p2
    | dic p2 => cases hn
theorem rcN_unlike {A : Around} {u v : Value} {x y : D} (hu : A.units < cLine) (hx : Sh s u x) (hy : Sh s v y) (hn : unlike x y = true) (ho : neOk true x y = true) : SeqAt.RcNeAt A s u v (!eqS x y) := by
  cases hx with
  | non =>
    cases hy with
    | non => exact SeqAt.RcNeAt.none_none
    | bl b2 => exact SeqAt.RcNeAt.none_bool _
    | int i2 t2 => exact SeqAt.RcNeAt.none_int _ _
    | str z2 t2 => exact SeqAt.RcNeAt.none_str _ _
    | tup p2 => exact SeqAt.RcNeAt.none_tuple p2 hu
    | lst p2 => exact SeqAt.RcNeAt.none_list p2 hu
    | dic p2 => cases ho
  | bl b =>
    cases hy with
    | non => exact SeqAt.RcNeAt.bool_none _
    | bl b2 => exact SeqAt.RcNeAt.bool_bool _ _
    | int i2 t2 => exact SeqAt.RcNeAt.bool_int _ _ _
    | str z2 t2 => exact SeqAt.RcNeAt.bool_str _ _ _
    | tup p2 => exact SeqAt.RcNeAt.bool_tuple _ p2 hu
    | lst p2 => exact SeqAt.RcNeAt.bool_list _ p2 hu
    | dic p2 => cases ho
  | int i t =>
    cases hy with
    | non => exact SeqAt.RcNeAt.int_none _ _
    | bl b2 => exact SeqAt.RcNeAt.int_bool _ _ _
    | int i2 t2 => exact SeqAt.RcNeAt.int_int _ _ _ _
    | str z2 t2 => exact SeqAt.RcNeAt.int_str _ _ _ _
    | tup p2 => exact SeqAt.RcNeAt.int_tuple _ _ p2 hu
    | lst p2 => exact SeqAt.RcNeAt.int_list _ _ p2 hu
    | dic p2 => cases ho
  | str z t =>
    cases hy with
    | non => exact SeqAt.RcNeAt.str_none _ _
    | bl b2 => exact SeqAt.RcNeAt.str_bool _ _ _
    | int i2 t2 => exact SeqAt.RcNeAt.str_int _ _ _ _
    | str z2 t2 => exact SeqAt.RcNeAt.str_str _ _ _ _
    | tup p2 => exact SeqAt.RcNeAt.str_tuple _ _ p2 hu
    | lst p2 => exact SeqAt.RcNeAt.str_list _ _ p2 hu
    | dic p2 => cases ho
  | tup p =>
    cases hy with
    | non => exact SeqAt.RcNeAt.tuple_none p hu
    | bl b2 => exact SeqAt.RcNeAt.tuple_bool _ p hu
    | int i2 t2 => exact SeqAt.RcNeAt.tuple_int _ _ p hu
    | str z2 t2 => exact SeqAt.RcNeAt.tuple_str _ _ p hu
    | tup p2 => cases hn
    | lst p2 => exact SeqAt.RcNeAt.tuple_list p p2 hu
    | dic p2 => exact rcN_Td p2 hu p
  | lst p =>
    cases hy with
    | non => exact SeqAt.RcNeAt.list_none p hu
    | bl b2 => exact SeqAt.RcNeAt.list_bool _ p hu
    | int i2 t2 => exact SeqAt.RcNeAt.list_int _ _ p hu
    | str z2 t2 => exact SeqAt.RcNeAt.list_str _ _ p hu
    | tup p2 => exact SeqAt.RcNeAt.list_tuple p p2 hu
    | lst p2 => cases hn
    | dic p2 => cases ho
  | dic p =>
    cases hy with
    | non => cases ho
    | bl b2 => cases ho
    | int i2 t2 => cases ho
    | str z2 t2 => cases ho
    | tup p2 => exact rcN_dT p hu p2
    | lst p2 => cases ho
    | dic p2 => cases hn
theorem at_unlike {A : Around} {u v : Value} {x y : D} (hu : A.units < cLine) (hx : Sh s u x) (hy : Sh s v y) (hn : unlike x y = true) (hs : ¬ ∃ a c, u = .ref a ∧ v = .ref c) : SeqAt.EqAt A s u v (eqS x y) := by
  have hrc := rc_unlike hu hx hy hn
  cases hx with
  | non =>
    cases hy with
    | non => exact SeqAt.EqAt.same _
    | bl _ => exact eqB_none (by simp) hrc
    | int _ _ => exact eqB_none (by simp) hrc
    | str _ _ => exact eqB_none (by simp) hrc
    | tup _ => exact eqB_none (by simp) hrc
    | lst _ => exact eqB_none (by simp) hrc
    | dic _ => exact eqB_none (by simp) hrc
  | bl b =>
    cases hy with
    | non => exact eqB_bool _ (by simp) hrc
    | bl c => exact SeqAt.EqAt.bool_bool _ _
    | int _ _ => exact SeqAt.EqAt.bool_int _ _ _
    | str _ _ => exact eqB_bool _ (by simp) hrc
    | tup _ => exact eqB_bool _ (by simp) hrc
    | lst _ => exact eqB_bool _ (by simp) hrc
    | dic _ => exact eqB_bool _ (by simp) hrc
  | int i t =>
    cases hy with
    | non => exact eqB_int _ _ (by simp) hrc
    | bl c => exact SeqAt.EqAt.int_bool _ _ _
    | int _ _ => exact SeqAt.EqAt.int_int _ _ _ _
    | str _ _ => exact eqB_int _ _ (by simp) hrc
    | tup _ => exact eqB_int _ _ (by simp) hrc
    | lst _ => exact eqB_int _ _ (by simp) hrc
    | dic _ => exact eqB_int _ _ (by simp) hrc
  | str i t =>
    cases hy with
    | non => exact eqB_str _ _ (by simp) hrc
    | bl c => exact eqB_str _ _ (by simp) hrc
    | int _ _ => exact eqB_str _ _ (by simp) hrc
    | str _ _ => exact SeqAt.EqAt.str_str _ _ _ _
    | tup _ => exact eqB_str _ _ (by simp) hrc
    | lst _ => exact eqB_str _ _ (by simp) hrc
    | dic _ => exact eqB_str _ _ (by simp) hrc
  | tup _ =>
    cases hy with
    | non => exact eqB_ref _ (by simp) hrc
    | bl _ => exact eqB_ref _ (by simp) hrc
    | int _ _ => exact eqB_ref _ (by simp) hrc
    | str _ _ => exact eqB_ref _ (by simp) hrc
    | tup _ => exact (hs ⟨_, _, rfl, rfl⟩).elim
    | lst _ => exact (hs ⟨_, _, rfl, rfl⟩).elim
    | dic _ => exact (hs ⟨_, _, rfl, rfl⟩).elim
  | lst _ =>
    cases hy with
    | non => exact eqB_ref _ (by simp) hrc
    | bl _ => exact eqB_ref _ (by simp) hrc
    | int _ _ => exact eqB_ref _ (by simp) hrc
    | str _ _ => exact eqB_ref _ (by simp) hrc
    | tup _ => exact (hs ⟨_, _, rfl, rfl⟩).elim
    | lst _ => exact (hs ⟨_, _, rfl, rfl⟩).elim
    | dic _ => exact (hs ⟨_, _, rfl, rfl⟩).elim
  | dic _ =>
    cases hy with
    | non => exact eqB_ref _ (by simp) hrc
    | bl _ => exact eqB_ref _ (by simp) hrc
    | int _ _ => exact eqB_ref _ (by simp) hrc
    | str _ _ => exact eqB_ref _ (by simp) hrc
    | tup _ => exact (hs ⟨_, _, rfl, rfl⟩).elim
    | lst _ => exact (hs ⟨_, _, rfl, rfl⟩).elim
    | dic _ => exact (hs ⟨_, _, rfl, rfl⟩).elim
theorem deq_unlike {n : Nat} {x y : D} (h : unlike x y = true) : deq n x y = some (eqS x y) := by
  cases n <;> cases x <;> cases y <;> first | rfl | cases h
theorem at_of_rc (I : Inv X pins σ H s) {n : Nat} (rc : RcP X H ι s n) : AtP X H ι s n := by
  intro A x y b vx vy u v hu hx hy rx ry ru rv h
  by_cases hs : ∃ a c, u = .ref a ∧ v = .ref c
  · obtain ⟨a, c, rfl, rfl⟩ := hs
    by_cases hac : a = c
    · subst hac
      have : vx = vy := RelV.inj ru rv
      subst this
      have := RD.det I x y vx hx hy rx ry
      subst this
      rw [deq_same hx h]
      exact SeqAt.EqAt.same _
    · exact SeqAt.EqAt.of_refs hac ((rc A false x y b vx vy _ _ hu hx hy rfl (.inl rx) (.inl ry) ru rv h).1 rfl)
  · have sx := RDw.sh I (.inl rx) ru hx
    have sy := RDw.sh I (.inl ry) rv hy
    have hk : unlike x y = true := by
      cases sx <;> cases sy <;> first | rfl | exact (hs ⟨_, _, rfl, rfl⟩).elim
    rw [deq_unlike hk] at h
    cases h
    exact at_unlike (by omega) sx sy hk hs
theorem items_at (I : Inv X pins σ H s) {n : Nat} (ih : RcP X H ι s n) {A : Around} {xs ys : List D} {vs ws : List V} {us zs : List Value} {e : Nat → Bool} (hu : A.units + (n + 1) < cLine) (hx : datsB xs = true) (hy : datsB ys = true)
    (rx : RDs X.K H ι vs xs) (ry : RDs X.K H ι ws ys) (ru : Vals vs us) (rz : Vals ws zs) (he : ∀ j x y, xs[j]? = some x → ys[j]? = some y → deq n x y = some (e j)) :
    ∀ j (h1 : j < us.toArray.size) (h2 : j < zs.toArray.size), SeqAt.EqAt A.in1 s us.toArray[j] zs.toArray[j] (e j) := by
  intro j h1 h2
  have h1' : j < us.length := by simpa using h1
  have h2' : j < zs.length := by simpa using h2
  obtain ⟨v, d, g1, g2, g3⟩ := (rx.items ru).2 (List.getElem?_eq_getElem h1')
  obtain ⟨v', d', g4, g5, g6⟩ := (ry.items rz).2 (List.getElem?_eq_getElem h2')
  rw [datsB_all] at hx hy
  have := at_of_rc I ih A.in1 d d' (e j) v v' us[j] zs[j] (by show A.units + 1 + n < cLine; omega) (List.all_eq_true.mp hx d (List.mem_of_getElem? g1)) (List.all_eq_true.mp hy d' (List.mem_of_getElem? g4)) g3 g6 g2 g5 (he j d d' g1 g4)
  simpa using this
theorem deq_rc (I : Inv X pins σ H s) : ∀ n : Nat, RcP X H ι s n := by
  intro n
  induction n with
  | zero =>
    intro A neg x y b vx vy u v hu hx hy hn rx ry ru rv h
    by_cases hk : unlike x y = true
    · rw [deq_unlike hk] at h
      cases h
      exact ⟨fun e => rc_unlike (by omega) (rx.sh I ru hx) (ry.sh I rv hy) hk, fun e => by subst e; exact rcN_unlike (by omega) (rx.sh I ru hx) (ry.sh I rv hy) hk hn⟩
    · cases x <;> cases y <;> first | (exact (hk rfl).elim) | (cases h)
  | succ n ih =>
    intro A neg x y b vx vy u v hu hx hy hn rx ry ru rv h
    by_cases hk : unlike x y = true
    · rw [deq_unlike hk] at h
      cases h
      exact ⟨fun e => rc_unlike (by omega) (rx.sh I ru hx) (ry.sh I rv hy) hk, fun e => by subst e; exact rcN_unlike (by omega) (rx.sh I ru hx) (ry.sh I rv hy) hk hn⟩
    · cases x with
      | tup xs =>
        cases y with
        | tup ys =>
          obtain ⟨c, h1, h2⟩ := Option.map_eq_some_iff.mp (show (zipF (deq n) xs ys).map (fun b => b && xs.length == ys.length) = some b from h)
          subst h2
          obtain ⟨e, he, hc⟩ := zipF_at h1
          subst hc
          obtain ⟨_, _, rfl, g1, g2⟩ := rx.tup
          obtain ⟨_, _, rfl, g3, g4⟩ := ry.tup
          cases ru; cases rv
          obtain ⟨its, r1, p1, _⟩ := I.tuple g1
          obtain ⟨its', r2, p2, _⟩ := I.tuple g3
          have hit := items_at I ih (A := A) hu (by simpa [datB] using hx) (by simpa [datB] using hy) g2 g4 r1 r2 he
          have l1 : its.toArray.size = xs.length := by rw [← g2.length, r1.length]; simp
          have l2 : its'.toArray.size = ys.length := by rw [← g4.length, r2.length]; simp
          have q1 := SeqAt.RcAt.tuples (A := A) p1 p2 (by omega) hit
          have q2 := SeqAt.RcNeAt.tuples (A := A) p1 p2 (by omega) hit
          rw [l1, l2] at q1 q2
          exact ⟨fun _ => q1, fun _ => q2⟩
        | _ => exact (hk rfl).elim
      | lst xs =>
        cases y with
        | lst ys =>
          have h' : (if xs.length = ys.length then zipF (deq n) xs ys else some false) = some b := h
          obtain ⟨_, _, rfl, g1, g2⟩ := rx.lst
          obtain ⟨_, _, rfl, g3, g4⟩ := ry.lst
          cases ru; cases rv
          obtain ⟨its, r1, p1, _⟩ := I.list g1
          obtain ⟨its', r2, p2, _⟩ := I.list g3
          replace p1 := p1.isList
          replace p2 := p2.isList
          have l1 : its.toArray.size = xs.length := by rw [← g2.length, r1.length]; simp
          have l2 : its'.toArray.size = ys.length := by rw [← g4.length, r2.length]; simp
          split at h'
          · rename_i hl
            obtain ⟨e, he, hc⟩ := zipF_at h'
            subst hc
            have hit := items_at I ih (A := A) hu (by simpa [datB] using hx) (by simpa [datB] using hy) g2 g4 r1 r2 he
            have q1 := SeqAt.RcAt.lists (A := A) p1 p2 (by omega) (by omega) hit
            have q2 := SeqAt.RcNeAt.lists (A := A) p1 p2 (by omega) (by omega) hit
            have : min xs.length ys.length = its.toArray.size := by omega
            rw [this]
            exact ⟨fun _ => q1, fun _ => q2⟩
          · rename_i hl
            cases h'
            exact ⟨fun _ => SeqAt.RcAt.lists_lengths p1 p2 (by simp at l1 l2 ⊢; omega) (by omega), fun _ => SeqAt.RcNeAt.lists_lengths p1 p2 (by simp at l1 l2 ⊢; omega) (by omega)⟩
        | _ => exact (hk rfl).elim
      | dic ks ds =>
        cases y with
        | dic _ _ => cases h
        | _ => exact (hk rfl).elim
      | _ => cases y <;> exact (hk rfl).elim
end
end G

set_option Elab.async false
set_option linter.all false
set_option maxRecDepth 1000000
set_option maxHeartbeats 2000000
/-! G7: operators. -/
namespace G
variable [Wld]
open PySem PySem.Spec PyProof.Rows L2

/-- what a result is as data: an object by what it holds -/
def dat (r : R) (e : En) (S : Sto) : Option D := match r with
  | .d (.ref n) => match S[n]? with
    | some (.lst ds) => some (.lst ds)
    | _ => none
  | .d x => some x
  | r => match look r e S with
    | some (.lst ds) => some (.lst ds)
    | _ => none
theorem Rel.datW {K : PySem.W.Frag} {H : Hp} {ι : List Addr} {σ : SV} {e : En} {S : Sto} {v : V} {r : R} {d : D} (R : Rel K H ι σ e S) (hr : RR K H ι σ e v r) (h : dat r e S = some d) : RDw K H ι v d := by
  have viaL : ∀ {ds : List D}, G.look r e S = some (.lst ds) → d = .lst ds → RDw K H ι v d := fun {ds} hl hd => by
    subst hd
    obtain ⟨a, xs, rfl, h1, h2⟩ := R.lookL hr hl
    exact .inr ⟨a, xs, ds, rfl, rfl, h1, h2⟩
  unfold G.dat at h
  split at h
  · split at h
    · cases h
      exact viaL (by assumption) rfl
    · cases h
  · cases h
    exact .inl hr
  · split at h
    · cases h
      exact viaL (by assumption) rfl
    · cases h

def toV : D → V
  | .non => .non
  | .bl b => .bl b
  | .int i => .int i
  | .str x => .str x
  | _ => .non
theorem RD.flat {K : PySem.W.Frag} {H : Hp} {ι : List Addr} {v : V} {d : D} (h : RD K H ι v d) (f : flat d = true) : v = toV d ∧ flatV v = true := by
  cases h <;> first | exact ⟨rfl, rfl⟩ | (cases f; done)
theorem RDs.flat {K : PySem.W.Frag} {H : Hp} {ι : List Addr} : ∀ {vs : List V} {ds : List D}, RDs K H ι vs ds → ds.all G.flat = true → vs = ds.map toV ∧ vs.all flatV = true
  | _, [], .nil, _ => ⟨rfl, rfl⟩
  | _, d :: ds, .cons h1 h2, f => by
    rw [List.all_cons, Bool.and_eq_true] at f
    obtain ⟨a, b⟩ := h1.flat f.1
    obtain ⟨c, e⟩ := RDs.flat h2 f.2
    subst a
    exact ⟨by rw [List.map_cons, ← c], by rw [List.all_cons, b, e]; rfl⟩
/-! ### == -/
def gEq (neg : Bool) (rx ry : R) : M R := fun e S => match dat rx e S, dat ry e S with
  | some x, some y => if datB x && datB y && neOk neg x y then (deq 60 x y).map fun b => (.d (.bl (b != neg)), e, S) else none
  | _, _ => none
section
variable {X : Cx}
theorem gEq_read {neg : Bool} {K : PySem.W.Frag} {x y : V} {H : Hp} {Q : VK} (q : tO2 K (gEq neg) x y H Q) :
    ∃ ι dx dy b, RDw K H ι x dx ∧ RDw K H ι y dy ∧ datB dx = true ∧ datB dy = true ∧ neOk neg dx dy = true ∧ deq 60 dx dy = some b ∧ Q (.bl (b != neg)) H := by
  obtain ⟨ι, σ, e, S, rx, ry, r, e', S', R, hx, hy, hm, q⟩ := q
  unfold gEq at hm
  split at hm
  · rename_i dx dy h1 h2
    split at hm
    · rename_i hc
      obtain ⟨b, hb, hz⟩ := Option.map_eq_some_iff.mp hm
      cases hz
      simp only [Bool.and_eq_true] at hc
      exact ⟨ι, dx, dy, b, R.datW hx h1, R.datW hy h2, hc.1.1, hc.1.2, hc.2, hb, q _ H ι R .refl (.bl _) trivial⟩
    · cases hm
  · cases hm
theorem gop_eq (hu : X.A.units + 64 < cLine) : OpR X (compareOp .Eq) (tO2 X.K (gEq false)) := fun pins s σ H x y v u Q I rx ry q => by
  obtain ⟨ι, dx, dy, b, h1, h2, h3, h4, h5, h6, h7⟩ := gEq_read q
  exact (deq_rc I 60 X.A false dx dy b x y v u (by omega) h3 h4 h5 h1 h2 rx ry h6).1 rfl X.prog X.w _ _ ⟨.bl _, H, I, rfl, by simpa using h7⟩
theorem gop_ne (hu : X.A.units + 64 < cLine) : OpR X (compareOp .NotEq) (tO2 X.K (gEq true)) := fun pins s σ H x y v u Q I rx ry q => by
  obtain ⟨ι, dx, dy, b, h1, h2, h3, h4, h5, h6, h7⟩ := gEq_read q
  exact (deq_rc I 60 X.A true dx dy b x y v u (by omega) h3 h4 h5 h1 h2 rx ry h6).2 rfl X.prog X.w _ _ ⟨.bl _, H, I, rfl, by simpa using h7⟩

/-! ### arithmetic, order, of data -/
/-- an operator on two data, none of them changed, the result data that needs no place -/
def gP (g : D → D → Option D) (rx ry : R) : M R := fun e S => match rx, ry with
  | .d x, .d y => (g x y).map fun d => (.d d, e, S)
  | _, _ => none
theorem gP_of {f : Value → Value → Sem Value} {r : R2} {g : D → D → Option D} (h : OpR X f r) (w : ∀ H ι x y dx dy d (Q : VK), RD X.K H ι x dx → RD X.K H ι y dy → g dx dy = some d → (∀ v, RD X.K H ι v d → Q v H) → r x y H Q) : OpR X f (tO2 X.K (gP g)) :=
  OpR.imp h fun x y H Q q => by
    obtain ⟨ι, σ, e, S, rx, ry, r, e', S', R, hx, hy, hm, q⟩ := q
    unfold gP at hm
    split at hm
    · obtain ⟨d, hd, hz⟩ := Option.map_eq_some_iff.mp hm
      cases hz
      exact w H ι x y _ _ d Q hx hy hd fun v rv => q v H ι R .refl rv trivial
    · cases hm
def dSub : D → D → Option D
  | .int i, .int j => some (.int (i - j))
  | .bl a, .int j => some (.int ((if a = true then 1 else 0) - j))
  | .int i, .bl b => some (.int (i - if b = true then 1 else 0))
  | _, _ => none
theorem op_subBI : OpR X (binaryOp .Sub) (fun x y H Q => ∃ a j, x = .bl a ∧ y = .int j ∧ Q (.int ((if a = true then 1 else 0) - j)) H) := fun pins s σ H x y v u Q I rx ry q => by
  obtain ⟨a, j, rfl, rfl, q⟩ := q
  obtain rfl : v = Value.bool a := rx
  obtain ⟨t, rfl⟩ := ry
  exact PySem.IntBool.sub_bool_int ⟨.int _, H, I.tok _, ⟨_, rfl⟩, q⟩
theorem op_subIB : OpR X (binaryOp .Sub) (fun x y H Q => ∃ i b, x = .int i ∧ y = .bl b ∧ Q (.int (i - if b = true then 1 else 0)) H) := fun pins s σ H x y v u Q I rx ry q => by
  obtain ⟨i, b, rfl, rfl, q⟩ := q
  obtain ⟨t, rfl⟩ := rx
  obtain rfl : u = Value.bool b := ry
  exact PySem.IntBool.sub_int_bool ⟨.int _, H, I.tok _, ⟨_, rfl⟩, q⟩
theorem op_addBI : OpR X (binaryOp .Add) (fun x y H Q => ∃ a j, x = .bl a ∧ y = .int j ∧ Q (.int ((if a = true then 1 else 0) + j)) H) := fun pins s σ H x y v u Q I rx ry q => by
  obtain ⟨a, j, rfl, rfl, q⟩ := q
  obtain rfl : v = Value.bool a := rx
  obtain ⟨t, rfl⟩ := ry
  exact PySem.IntBool.add_bool_int ⟨.int _, H, I.tok _, ⟨_, rfl⟩, q⟩
theorem gop_sub : OpR X (binaryOp .Sub) (tO2 X.K (gP dSub)) := gP_of (OpR.or op_sub (OpR.or op_subBI op_subIB)) fun H ι x y dx dy d Q hx hy hd q => by
  unfold dSub at hd
  split at hd <;> cases hd <;> cases hx <;> cases hy
  · exact .inl ⟨_, _, rfl, rfl, q _ (.int _)⟩
  · exact .inr (.inl ⟨_, _, rfl, rfl, q _ (.int _)⟩)
  · exact .inr (.inr ⟨_, _, rfl, rfl, q _ (.int _)⟩)
def dMod : D → D → Option D
  | .int i, .int j => if 0 < j then some (.int (i % j)) else none
  | _, _ => none
theorem gop_mod : OpR X (binaryOp .Mod) (tO2 X.K (gP dMod)) := gP_of op_mod fun H ι x y dx dy d Q hx hy hd q => by
  unfold dMod at hd
  split at hd
  · split at hd <;> cases hd
    cases hx; cases hy
    exact ⟨_, _, rfl, rfl, by assumption, q _ (.int _)⟩
  · cases hd
def dDiv : D → D → Option D
  | .int i, .int j => if 0 < j ∧ j < 1073741824 then some (.int (i / j)) else none
  | _, _ => none
theorem gop_div : OpR X (binaryOp .FloorDiv) (tO2 X.K (gP dDiv)) := gP_of op_fdiv fun H ι x y dx dy d Q hx hy hd q => by
  unfold dDiv at hd
  split at hd
  · split at hd <;> cases hd
    cases hx; cases hy
    exact ⟨_, _, rfl, rfl, by assumption, q _ (.int _)⟩
  · cases hd
def dPow : D → D → Option D
  | .int i, .int j => if 0 ≤ j ∧ j ≤ 1000 ∧ i.natAbs < 1000 then some (.int (i ^ j.toNat)) else none
  | _, _ => none
theorem gop_pow : OpR X (binaryOp .Pow) (tO2 X.K (gP dPow)) := gP_of op_pow fun H ι x y dx dy d Q hx hy hd q => by
  unfold dPow at hd
  split at hd
  · split at hd <;> cases hd
    rename_i h
    cases hx; cases hy
    exact ⟨_, _, rfl, rfl, ⟨h.1, by omega, Nat.lt_of_lt_of_le h.2.2 (by decide)⟩, q _ (.int _)⟩
  · cases hd
def small (i : Int) : Bool := decide (-(2 ^ 64) < i) && decide (i < 2 ^ 64)
def dMul : D → D → Option D
  | .int i, .int j => if small i || small j then some (.int (i * j)) else none
  | _, _ => none
theorem gop_mulI : OpR X (binaryOp .Mult) (tO2 X.K (gP dMul)) := gP_of op_mul fun H ι x y dx dy d Q hx hy hd q => by
  unfold dMul at hd
  split at hd
  · split at hd <;> cases hd
    rename_i h
    cases hx; cases hy
    refine ⟨_, _, rfl, rfl, ?_, q _ (.int _)⟩
    unfold small at h
    simp only [Bool.or_eq_true, Bool.and_eq_true, decide_eq_true_eq] at h
    exact h
  · cases hd
/-- order of numbers, of texts -/
def dLt : D → D → Option D
  | .int i, .int j => some (.bl (decide (i < j)))
  | .str i, .str j => some (.bl (decide (i.cps.toList < j.cps.toList)))
  | _, _ => none
def dLe : D → D → Option D
  | .int i, .int j => some (.bl (decide (i ≤ j)))
  | .str i, .str j => some (.bl (!decide (j.cps.toList < i.cps.toList)))
  | _, _ => none
theorem gop_lt : OpR X (compareOp .Lt) (tO2 X.K (gP dLt)) := gP_of (OpR.or op_lt op_lt_str) fun H ι x y dx dy d Q hx hy hd q => by
  unfold dLt at hd
  split at hd <;> cases hd <;> cases hx <;> cases hy
  · exact .inl ⟨_, _, rfl, rfl, q _ (.bl _)⟩
  · exact .inr ⟨_, _, rfl, rfl, q _ (.bl _)⟩
theorem gop_le : OpR X (compareOp .LtE) (tO2 X.K (gP dLe)) := gP_of (OpR.or op_le op_le_str) fun H ι x y dx dy d Q hx hy hd q => by
  unfold dLe at hd
  split at hd <;> cases hd <;> cases hx <;> cases hy
  · exact .inl ⟨_, _, rfl, rfl, q _ (.bl _)⟩
  · exact .inr ⟨_, _, rfl, rfl, q _ (.bl _)⟩
theorem gop_gt : OpR X (compareOp .Gt) (tO2 X.K (gP fun x y => dLt y x)) := gP_of (OpR.or op_gt op_gt_str) fun H ι x y dx dy d Q hx hy hd q => by
  unfold dLt at hd
  split at hd <;> cases hd <;> cases hx <;> cases hy
  · exact .inl ⟨_, _, rfl, rfl, q _ (.bl _)⟩
  · exact .inr ⟨_, _, rfl, rfl, q _ (.bl _)⟩
theorem gop_ge : OpR X (compareOp .GtE) (tO2 X.K (gP fun x y => dLe y x)) := gP_of (OpR.or op_ge op_ge_str) fun H ι x y dx dy d Q hx hy hd q => by
  unfold dLe at hd
  split at hd <;> cases hd <;> cases hx <;> cases hy
  · exact .inl ⟨_, _, rfl, rfl, q _ (.bl _)⟩
  · exact .inr ⟨_, _, rfl, rfl, q _ (.bl _)⟩

/-! ### is -/
def isNon : D → Bool
  | .non => true
  | _ => false
def gIsN (neg : Bool) (rx ry : R) : M R := fun e S => match rx, ry with
  | .d x, .d .non => some (.d (.bl (isNon x != neg)), e, S)
  | _, _ => none
theorem gIsN_read {neg : Bool} {K : PySem.W.Frag} {x y : V} {H : Hp} {Q : VK} (q : tO2 K (gIsN neg) x y H Q) : y = .non ∧ Q (.bl (decide (x = .non) != neg)) H := by
  obtain ⟨ι, σ, e, S, rx, ry, r, e', S', R, hx, hy, hm, q⟩ := q
  unfold gIsN at hm
  split at hm
  · cases hm
    rename_i _ _ dx
    cases hy
    refine ⟨rfl, ?_⟩
    have fin := q (.bl (isNon dx != neg)) H ι R .refl (.bl _) trivial
    have e : decide (x = V.non) = isNon dx := by
      have hx' : RD K H ι x dx := hx
      cases hx' <;> simp [isNon]
    rw [e]
    exact fin
  · cases hm
theorem gop_isN : OpR X (compareOp .Is) (tO2 X.K (gIsN false)) := OpR.imp op_isN fun x y H Q q => by
  obtain ⟨h1, h2⟩ := gIsN_read q
  exact ⟨h1, by simpa using h2⟩
def dIsB (neg : Bool) : D → D → Option D
  | .bl a, .bl b => some (.bl (decide (a = b) != neg))
  | _, _ => none

/-! ### in -/
/-- the items of a sequence -/
def seqOf (r : R) (e : En) (S : Sto) : Option (List D) := match r with
  | .d (.tup ds) => some ds
  | r => match look r e S with
    | some (.lst ds) => some ds
    | _ => none
theorem Rel.seq {K : PySem.W.Frag} {H : Hp} {ι : List Addr} {σ : SV} {e : En} {S : Sto} {v : V} {r : R} {ds : List D} (R : Rel K H ι σ e S) (hr : RR K H ι σ e v r) (h : seqOf r e S = some ds) : ∃ a xs, v = .ref a ∧ (SqL K H a xs ∨ SqT K H a xs) ∧ RDs K H ι xs ds := by
  unfold seqOf at h
  split at h
  · cases h
    cases hr with | tup h1 h2 => exact ⟨_, _, rfl, .inr h1, h2⟩
  · split at h
    · cases h
      obtain ⟨a, xs, e1, h1, h2⟩ := R.lookL hr (by assumption)
      exact ⟨a, xs, e1, .inl h1, h2⟩
    · cases h
/-- x in ds: what each item tells -/
def inF (x : D) : List D → Option Bool
  | [] => some false
  | y :: ys => match deq 59 y x, inF x ys with
    | some a, some b => some (a || b)
    | _, _ => none
def gIn (neg : Bool) (rx ry : R) : M R := fun e S => match rx, ry with
  | .d (.str x), .d (.str z) => (match x.cps.toList with
    | [c] => some (.d (.bl (decide (c ∈ z.cps.toList) != neg)), e, S)
    | _ => none)
  | .d x, ry => (match seqOf ry e S with
    | some ds => if datB x && datsB ds then (inF x ds).map fun b => (.d (.bl (b != neg)), e, S) else none
    | none => none)
  | _, _ => none
theorem inF_at {x : D} : ∀ {ds : List D} {b : Bool}, inF x ds = some b → (∀ d ∈ ds, ∃ a, deq 59 d x = some a) ∧ b = ds.any fun d => deq 59 d x == some true
  | [], b, h => by cases h; simp
  | d :: ds, b, h => by
    unfold inF at h
    split at h
    · rename_i a c h1 h2
      cases h
      obtain ⟨g1, g2⟩ := inF_at h2
      refine ⟨fun y hy => ?_, ?_⟩
      · rcases List.mem_cons.mp hy with rfl | hy
        · exact ⟨_, h1⟩
        · exact g1 y hy
      · rw [List.any_cons, h1, g2]
        cases a <;> rfl
    · cases h
open Classical in
/-- the item's data, told by the value alone -/
theorem in_go {pins : List (Addr × PySem.Obj)} {σ : SV} {H : Hp} {s : Shared} {ι : List Addr} {vx : V} {v : Value} {x : D} {xs : List V} {ds : List D} {its : List Value} {b : Bool} (I : Inv X pins σ H s) (hu : X.A.units + 64 < cLine) (hx : datB x = true) (hd : datsB ds = true)
    (rx : RD X.K H ι vx x) (rv : RelV vx v) (rd : RDs X.K H ι xs ds) (r : Vals xs its) (h : inF x ds = some b) : ∃ e : Value → Bool, (∀ y, y ∈ its → SeqAt.EqAt X.A.in1 s y v (e y)) ∧ its.any e = b := by
  obtain ⟨h1, h2⟩ := inF_at h
  rw [datsB_all] at hd
  have at' : ∀ (j : Nat) (y : Value), its[j]? = some y → ∃ vy d, ds[j]? = some d ∧ RelV vy y ∧ RD X.K H ι vy d := fun j y e => (rd.items r).2 e
  have one : ∀ (i j : Nat) (y : Value) (d d' : D), its[i]? = some y → its[j]? = some y → ds[i]? = some d → ds[j]? = some d' → d = d' := fun i j y d d' e1 e2 e3 e4 => by
    obtain ⟨v1, d1, q1, q2, q3⟩ := at' i y e1
    obtain ⟨v2, d2, q4, q5, q6⟩ := at' j y e2
    rw [e3] at q1; cases q1
    rw [e4] at q4; cases q4
    have := RelV.inj q2 q5
    subst this
    exact RD.det I d d' v1 (List.all_eq_true.mp hd d (List.mem_of_getElem? e3)) (List.all_eq_true.mp hd d' (List.mem_of_getElem? e4)) q3 q6
  refine ⟨fun y => decide (∃ (j : Nat) (d : D), its[j]? = some y ∧ ds[j]? = some d ∧ deq 59 d x = some true), fun y hy => ?_, ?_⟩
  · obtain ⟨j, hj⟩ := List.getElem?_of_mem hy
    obtain ⟨vy, d, q1, q2, q3⟩ := at' j y hj
    obtain ⟨a, ha⟩ := h1 d (List.mem_of_getElem? q1)
    have e : decide (∃ (j : Nat) (d : D), its[j]? = some y ∧ ds[j]? = some d ∧ deq 59 d x = some true) = a := by
      cases a with
      | true => exact decide_eq_true ⟨j, d, hj, q1, ha⟩
      | false =>
        refine decide_eq_false ?_
        rintro ⟨i, d', e1, e2, e3⟩
        rw [one i j y d' d e1 hj e2 q1, ha] at e3
        cases e3
    show SeqAt.EqAt X.A.in1 s y v (decide _)
    rw [e]
    exact at_of_rc I (deq_rc I 59) X.A.in1 d x a vy vx y v (by show X.A.units + 1 + 59 < cLine; omega) (List.all_eq_true.mp hd d (List.mem_of_getElem? q1)) hx q3 rx q2 rv ha
  · rw [h2, Bool.eq_iff_iff, List.any_eq_true, List.any_eq_true]
    constructor
    · rintro ⟨y, hy, hd'⟩
      obtain ⟨j, d, e1, e2, e3⟩ := of_decide_eq_true hd'
      exact ⟨d, List.mem_of_getElem? e2, by rw [e3]; rfl⟩
    · rintro ⟨d, hd1, hd2⟩
      obtain ⟨j, hj⟩ := List.getElem?_of_mem hd1
      have hl := (List.getElem?_eq_some_iff.mp hj).1
      have hl' : j < its.length := by rw [(rd.items r).1]; exact hl
      exact ⟨its[j], List.getElem_mem hl', decide_eq_true ⟨j, d, List.getElem?_eq_getElem hl', hj, by simpa using hd2⟩⟩

/-! ### + -/
def notLst : R → Bool
  | .d (.lst _) => false
  | _ => true
def gAdd (rx ry : R) : M R := fun e S => match rx, ry with
  | .d (.int i), .d (.int j) => some (.d (.int (i + j)), e, S)
  | .d (.bl a), .d (.int j) => some (.d (.int ((if a = true then 1 else 0) + j)), e, S)
  | .d (.str x), .d (.str y) => if x.length + y.length ≤ 1000000 then some (.d (.str (x ++ y)), e, S) else none
  | .d (.tup xs), .d (.tup ys) => if xs.length + ys.length ≤ 1000000 then some (.d (.tup (xs ++ ys)), e, S) else none
  | rx, ry => (match look rx e S, look ry e S with
    | some (.lst xs), some (.lst ys) => if notLst rx && notLst ry && decide (xs.length + ys.length ≤ 1000000) then some (.new (.lst (xs ++ ys)), e, S) else none
    | _, _ => none)
theorem line_ge : 1000000 ≤ sizeLine := by rw [sizeLine_eq]; decide
theorem Rel.lookM {K : PySem.W.Frag} {H : Hp} {ι : List Addr} {σ : SV} {e : En} {S : Sto} {v : V} {r : R} {ds : List D} (R : Rel K H ι σ e S) (hr : RR K H ι σ e v r) (h : G.look r e S = some (.lst ds)) (hn : ∀ es, r ≠ .d (.lst es)) : ∃ a xs, v = .ref a ∧ H a = some (.lst xs) ∧ RDs K H ι xs ds := by
  cases r with
  | d x =>
    have hr' : RD K H ι v x := hr
    cases hr' with
    | lst _ _ => exact (hn _ rfl).elim
    | ref hi =>
      have h' : S[_]? = some _ := h
      obtain ⟨xs, h4, h5⟩ := R.st _ _ _ h' hi
      exact ⟨_, xs, rfl, h4, h5⟩
    | _ => cases h
  | new o => obtain ⟨a, rfl, ro, _⟩ := hr; cases h; obtain ⟨xs, h4, h5⟩ := ro; exact ⟨a, xs, rfl, h4, h5⟩
  | brw o => obtain ⟨a, rfl, ro, _⟩ := hr; cases h; obtain ⟨xs, h4, h5⟩ := ro; exact ⟨a, xs, rfl, h4, h5⟩
  | lm i cs => cases h
  | loc i =>
    have h' : (match e[i]? with
      | some (some (.own o)) => some o
      | _ => none) = some (O.lst ds) := h
    split at h'
    · cases h'
      rename_i he
      obtain ⟨w, hw, a, rfl, ro⟩ := R.sl _ _ he
      have hr' : σ[i]? = some (some v) := hr
      rw [hr'] at hw; cases hw
      obtain ⟨xs, h4, h5⟩ := ro
      exact ⟨a, xs, rfl, h4, h5⟩
    · cases h'
theorem gop_add : OpR X (binaryOp .Add) (tO2 X.K gAdd) := OpR.imp (OpR.or op_addBI (OpR.or (OpR.or op_add op_add_str) (OpR.or op_catA op_cat))) fun x y H Q q => by
  obtain ⟨ι, σ, e, S, rx, ry, r, e', S', R, hx, hy, hm, q⟩ := q
  unfold gAdd at hm
  split at hm
  · cases hm
    cases hx; cases hy
    exact .inr (.inl (.inl ⟨_, _, rfl, rfl, q _ H ι R .refl (.int _) trivial⟩))
  · cases hm
    cases hx; cases hy
    exact .inl ⟨_, _, rfl, rfl, q _ H ι R .refl (.int _) trivial⟩
  · split at hm
    · cases hm
      cases hx; cases hy
      exact .inr (.inl (.inr ⟨_, _, rfl, rfl, Nat.le_trans (by assumption) line_ge, q _ H ι R .refl (.str _) trivial⟩))
    · cases hm
  · split at hm
    · cases hm
      rename_i hz
      cases hx with
      | tup h1 h2 =>
        cases hy with
        | tup h3 h4 =>
          have l1 := h2.length
          have l2 := h4.length
          refine .inr (.inr (.inl ⟨_, _, _, _, rfl, rfl, h1, h3, Nat.le_trans (by omega) line_ge, fun e0 => ?_, fun _ e0 => ?_, fun _ _ p hp => ?_⟩))
          · subst e0
            cases h2
            exact q _ H ι R .refl (.tup h3 (by simpa using h4)) trivial
          · subst e0
            cases h4
            exact q _ H ι R .refl (.tup h1 (by simpa using h2)) trivial
          · obtain ⟨R2, P2, _⟩ := R.new (u := .tup _) hp
            exact q _ _ ι R2 P2 (.tup (.inl (.inl upd_same)) (RDs.mono P2.stay P2.pre _ _ (h2.append h4))) trivial
    · cases hm
  · split at hm
    · rename_i xs ys g1 g2
      split at hm
      · cases hm
        rename_i hz
        simp only [Bool.and_eq_true, decide_eq_true_eq] at hz
        obtain ⟨a, us, rfl, k1, k2⟩ := R.lookM hx g1 fun es z => by subst z; cases hz.1.1
        obtain ⟨b, ws, rfl, k3, k4⟩ := R.lookM hy g2 fun es z => by subst z; cases hz.1.2
        refine .inr (.inr (.inr ⟨a, b, us, ws, rfl, rfl, k1, k3, Nat.le_trans (by rw [k2.length, k4.length]; exact hz.2) line_ge, fun p hp => ?_⟩))
        obtain ⟨R2, P2, m1, m2⟩ := R.new (u := .lst (us ++ ws)) hp
        exact q _ _ ι R2 P2 ⟨p, rfl, ⟨_, upd_same, RDs.mono P2.stay P2.pre _ _ (k2.append k4)⟩, m1, m2⟩ ⟨p, rfl, hp⟩
      · cases hm
    · cases hm
/-! ### - a -/
def gNeg (rx : R) : M R := match rx with
  | .d (.int i) => pur (.d (.int (-i)))
  | _ => stk
theorem gun_neg : UnR X (unaryOp .USub) (tO1 X.K gNeg) := UnR.imp un_neg fun x H Q q => by
  obtain ⟨ι, σ, e, S, rx, r, e', S', R, hx, hm, q⟩ := q
  unfold gNeg at hm
  split at hm
  · cases hm
    cases hx
    exact ⟨_, rfl, q _ H ι R .refl (.int _) trivial⟩
  · cases hm
/-! ### chains -/
def mChain (g g' : R → R → M R) (ma mb mc : M R) : M R := bnd ma fun x => bnd mb fun y => bnd (bnd (g x y) asB) fun k => if k = true then bnd mc fun w => g' y w else pur (.d (.bl false))
variable {a b c : Expr} {ma mb mc : M R} {pos : Pos} {op op' : CmpOp} {g g' : R → R → M R}
theorem tG_chain {K : PySem.W.Frag} {σ : SV} {H : Hp} {Q : VK} (h : tG K (mChain g g' ma mb mc) σ H Q) : tChain (tO2 K g) (tO2 K g') (tG K ma) (tG K mb) (tG K mc) σ H Q := by
  obtain ⟨ι, e, S, r, e', S', R, hm, q⟩ := h
  obtain ⟨x, e1, S1, h1, hm⟩ := bnd_eq hm
  obtain ⟨y, e2, S2, h2, hm⟩ := bnd_eq hm
  obtain ⟨k, e3, S3, h3, hm⟩ := bnd_eq hm
  obtain ⟨z, e4, S4, h4, h5⟩ := bnd_eq h3
  refine ⟨ι, e, S, x, e1, S1, R, h1, fun v H1 ι1 R1 P1 r1 _ => ⟨ι1, e1, S1, y, e2, S2, R1, h2, fun w H2 ι2 R2 P2 r2 _ =>
    ⟨ι2, σ, e2, S2, x, y, z, e4, S4, R2, r1.post P2, r2, h4, fun v3 H3 ι3 R3 P3 r3 _ => ?_⟩⟩⟩
  unfold asB at h5
  split at h5
  · cases h5
    cases r3
    refine ⟨_, rfl, ?_⟩
    have P13 := (P1.trans P2).trans P3
    cases k with
    | true =>
      refine iteT ?_
      obtain ⟨w', e5, S5, h6, hm⟩ := bnd_eq (show bnd mc (fun w => g' y w) e3 S3 = some (r, e', S') from hm)
      exact ⟨ι3, e3, S3, w', e5, S5, R3, h6, fun v4 H4 ι4 R4 P4 r4 _ => ⟨ι4, σ, e5, S5, y, w', r, e', S', R4, (r2.post P3).post P4, r4, hm, fun v5 H5 ι5 R5 P5 r5 f5 => q v5 H5 ι5 R5 ((P13.trans P4).trans P5) r5 (f5.back (P13.trans P4))⟩⟩
    | false =>
      refine iteF ?_
      cases (show pur (G.R.d (.bl false)) e3 S3 = some (r, e', S') from hm)
      exact q _ H3 ι3 R3 P13 (.bl false) trivial
  · cases h5
theorem gt_chain (ho : OpR X (compareOp op) (tO2 X.K g)) (ho' : OpR X (compareOp op') (tO2 X.K g')) (ha : GE X a ma) (hb : GE X b mb) (hc : GE X c mc)
    (hm : lastMarks [op, op'] [b, c] = false := by with_unfolding_all rfl) : GT X (.Compare a [op, op'] [b, c] pos) (bnd (mChain g g' ma mb mc) asB) := PT.imp (pt_chain ho ho' ha hb hc hm) fun σ H Q q => by
  obtain h := tG_test q
  exact tG_chain h
end
end G

set_option Elab.async false
set_option linter.all false
set_option maxRecDepth 1000000
set_option maxHeartbeats 2000000
/-! G8: a, *b = t. -/
namespace G
variable [Wld]
open PySem PySem.Spec PyProof.Rows L2
section
variable {prog : Program} {w : World} {A : Around} {E : Value → Shared → Prop} {s : Shared}
end
section
variable {X : Cx}
def gStarT (K : PySem.W.Frag) (i j : Nat) : TG := fun v σ H Q => ∃ a x xs, v = .ref a ∧ SqT K H a (x :: xs) ∧ ∀ p, H p = none → Q ((σ.set i (some x)).set j (some (.ref p))) (upd H p (.lst xs))
/-- a, *b = t -/
def starE (i j : Nat) (r : R) : M Fl := fun e S => match r with
  | .d (.tup (d :: ds)) => if i < e.length ∧ j < e.length then some (.nx, (e.set i (some (.d d))).set j (some (.own (.lst ds))), S) else none
  | _ => none
theorem starE_eq {i j : Nat} {r : R} {e : En} {S : Sto} {z} (h : starE i j r e S = some z) : ∃ d ds, r = .d (.tup (d :: ds)) ∧ i < e.length ∧ j < e.length ∧ z = (.nx, (e.set i (some (.d d))).set j (some (.own (.lst ds))), S) := by
  unfold starE at h
  split at h
  · split at h
    · rename_i hl
      exact ⟨_, _, rfl, hl.1, hl.2, (Option.some.inj h).symm⟩
    · cases h
  · cases h
def mStar (i j : Nat) (m : M R) : M Fl := bnd m (starE i j)
end
end G

set_option Elab.async false
set_option linter.all false
set_option maxRecDepth 1000000
set_option maxHeartbeats 2000000
/-! G9: subscripts, slices, built-ins, methods. -/
namespace G
variable [Wld]
open PySem PySem.Spec PyProof.Rows L2

theorem PE.or {X : Cx} {ex : Expr} {t t' : TE} (h : PE X ex t) (h' : PE X ex t') : PE X ex (fun σ H Q => t σ H Q ∨ t' σ H Q) := ⟨fun pins s σ H Q I q => q.elim (h.run pins s σ H Q I) (h'.run pins s σ H Q I)⟩
/-! ### subscripts -/
def keyOf : D → Option Key
  | .int i => some (.inl i)
  | .str x => some (.inr x)
  | _ => none
def valD (kvs : List (Key × D)) (k : Key) : Option D := (kvs.find? fun kv => decide (kv.1 = k)).map (·.2)
def atD (ds : List D) (i : Int) : Option D := atI ds i
def gIx (rx ry : R) : M R := fun e S => match rx, ry with
  | .d (.tup ds), .d (.int i) => (atD ds i).map fun d => (.d d, e, S)
  | .d (.str z), .d (.int i) => if z.length ≤ 1000000 then (atI z.cps.toList i).map fun c => (.d (.str ⟨#[c]⟩), e, S) else none
  | rx, .d y => (match look rx e S with
    | some (.lst ds) => (match y with
      | .int i => (atD ds i).map fun d => (.d d, e, S)
      | _ => none)
    | some (.dct kvs) => (keyOf y).bind fun k => (valD kvs k).map fun d => (.d d, e, S)
    | _ => none)
  | _, _ => none
section
variable {K : PySem.W.Frag} {H : Hp} {ι : List Addr}
theorem RDs.atI {vs : List V} {ds : List D} {i : Int} {d : D} (h : RDs K H ι vs ds) (e : L2.atI ds i = some d) : ∃ v, L2.atI vs i = some v ∧ RD K H ι v d := by
  unfold L2.atI at e ⊢
  obtain ⟨j, h1, h2⟩ := Option.bind_eq_some_iff.mp e
  obtain ⟨v, h3, h4⟩ := h.get h2
  exact ⟨v, by rw [h.length, h1]; exact h3, h4⟩
theorem keyOf_v {v : V} {d : D} {k : Key} (h : RD K H ι v d) (e : keyOf d = some k) : v = kV k := by
  cases h <;> cases e <;> rfl
theorem RK.val {ws : List (Key × V)} {kvs : List (Key × D)} (h : RK K H ι ws kvs) (k : Key) : (∀ d, valD kvs k = some d → ∃ v, valV ws k = some v ∧ RD K H ι v d) ∧ (valD kvs k = none → valV ws k = none) := by
  induction h with
  | nil => exact ⟨fun d e => (by cases e), fun _ => rfl⟩
  | cons h1 _ ih =>
    rename_i p q ps qs _
    obtain ⟨e1, r⟩ := h1
    by_cases hk : q.1 = k
    · have hv : valD (q :: qs) k = some q.2 := by simp [valD, List.find?_cons, hk]
      rw [hv]
      exact ⟨fun d e => (by cases e; exact ⟨p.2, valV_pos (e1.trans hk), r⟩), fun e => (by cases e)⟩
    · have hv : valD (q :: qs) k = valD qs k := by simp [valD, List.find?_cons, hk]
      rw [hv, valV_neg (fun z => hk (e1 ▸ z))]
      exact ih
end
section
variable {X : Cx} {a b : Expr} {ma mb : M R} {pos : Pos}
theorem ge_ix (hu : X.A.units + 1 < cLine) (ha : GE X a ma) (hb : GE X b mb) (hs : PlainIx b := by exact fun _ _ => rfl) (hs2 : NoSl b := by exact fun _ _ => rfl) : GE X (.Subscript a b pos) (mBin gIx ma mb) :=
  PE.imp (PE.or (PE.or (pe_ix (IxR.or ix_list ix_tup) ha hb hs) (pe_ix ix_str ha hb hs)) (pe_dget hu ha hb hs2)) fun σ H Q q => by
    obtain ⟨ι, e, S, r, e', S', R, hm, q⟩ := q
    obtain ⟨x, e1, S1, h1, hm⟩ := bnd_eq hm
    obtain ⟨y, e2, S2, h2, hm⟩ := bnd_eq hm
    unfold gIx at hm
    split at hm
    · rename_i ds i
      obtain ⟨d, hd, hz⟩ := Option.map_eq_some_iff.mp hm
      cases hz
      refine .inl (.inl ⟨ι, e, S, _, e1, S1, R, h1, fun v H1 ι1 R1 P1 r1 _ => ⟨ι1, e1, S1, _, _, _, R1, h2, fun w H2 ι2 R2 P2 r2 _ => ?_⟩⟩)
      have r1' := r1.post P2
      cases r2
      cases r1' with
      | tup g1 g2 =>
        obtain ⟨z, hz, rz⟩ := g2.atI hd
        exact .inr ⟨_, _, _, z, rfl, rfl, g1, hz, q _ H2 ι2 R2 (P1.trans P2) rz trivial⟩
    · rename_i z i
      split at hm
      · rename_i hl
        obtain ⟨c, hc, hz⟩ := Option.map_eq_some_iff.mp hm
        cases hz
        refine .inl (.inr ⟨ι, e, S, _, e1, S1, R, h1, fun v H1 ι1 R1 P1 r1 _ => ⟨ι1, e1, S1, _, _, _, R1, h2, fun w H2 ι2 R2 P2 r2 _ => ?_⟩⟩)
        cases r1; cases r2
        exact ⟨_, _, c, rfl, rfl, Nat.le_trans hl line_ge, hc, q _ H2 ι2 R2 (P1.trans P2) (.str _) trivial⟩
      · cases hm
    · split at hm
      · rename_i ds hlk
        split at hm
        · rename_i i
          obtain ⟨d, hd, hz⟩ := Option.map_eq_some_iff.mp hm
          cases hz
          refine .inl (.inl ⟨ι, e, S, _, e1, S1, R, h1, fun v H1 ι1 R1 P1 r1 _ => ⟨ι1, e1, S1, _, _, _, R1, h2, fun w H2 ι2 R2 P2 r2 _ => ?_⟩⟩)
          obtain ⟨p, xs, rfl, g1, g2⟩ := R2.lookL (r1.post P2) hlk
          cases r2
          obtain ⟨z, hz, rz⟩ := g2.atI hd
          exact .inl ⟨_, _, _, z, rfl, rfl, g1, hz, q _ H2 ι2 R2 (P1.trans P2) rz trivial⟩
        · cases hm
      · rename_i kvs hlk
        obtain ⟨k, hk, hm⟩ := Option.bind_eq_some_iff.mp hm
        obtain ⟨d, hd, hz⟩ := Option.map_eq_some_iff.mp hm
        cases hz
        refine .inr ⟨ι, e, S, _, e1, S1, R, h1, fun v H1 ι1 R1 P1 r1 _ => ⟨ι1, e1, S1, _, _, _, R1, h2, fun w H2 ι2 R2 P2 r2 _ => ?_⟩⟩
        obtain ⟨p, ws, rfl, g1, g2⟩ := R2.lookD (r1.post P2) hlk
        obtain ⟨z, hz, rz⟩ := (g2.val k).1 d hd
        have ek := keyOf_v r2 hk
        refine ⟨p, z, rfl, .inl ⟨ws, k, g1, ek, hz.symm⟩, q _ H2 ι2 R2 (P1.trans P2) rz trivial⟩
      · cases hm
    · cases hm

/-! ### slices -/
def tGO (K : PySem.W.Frag) (m : M (Option Int)) : TO := fun σ H Q => ∃ ι e S r e' S', Rel K H ι σ e S ∧ m e S = some (r, e', S') ∧ ∀ H' ι', Rel K H' ι' σ e' S' → Post H ι σ e H' ι' σ e' → Q r H'
theorem PO.imp {X : Cx} {ex : Option Expr} {t t' : TO} (h : PO X ex t) (w : ∀ σ H Q, t' σ H Q → t σ H Q) : PO X ex t' := ⟨fun pins s σ H Q I q => h.run pins s σ H Q I (w σ H Q q)⟩
abbrev GO (X : Cx) (ex : Option Expr) (m : M (Option Int)) : Prop := PO X ex (tGO X.K m)
def asI (r : R) : M (Option Int) := match r with
  | .d (.int i) => pur (some i)
  | _ => stk
theorem go_none : GO X none (pur none) := PO.imp po_none fun σ H Q q => by
  obtain ⟨ι, e, S, r, e', S', R, hm, q⟩ := q
  cases hm
  exact q H ι R .refl
theorem go_some (h : GE X a ma) : GO X (some a) (bnd ma asI) := PO.imp (po_some h) fun σ H Q q => by
  obtain ⟨ι, e, S, r, e', S', R, hm, q⟩ := q
  obtain ⟨x, e1, S1, h1, hm⟩ := bnd_eq hm
  refine ⟨ι, e, S, x, e1, S1, R, h1, fun v H1 ι1 R1 P1 r1 _ => ?_⟩
  unfold asI at hm
  split at hm
  · cases hm
    cases r1
    exact ⟨_, rfl, q H1 ι1 R1 P1⟩
  · cases hm
def cutD (xs : List D) (lo hi : Option Int) : List D := (xs.drop (HT.sIx xs.length 0 lo)).take (HT.sIx xs.length xs.length hi - HT.sIx xs.length 0 lo)
theorem RDs.cut {K : PySem.W.Frag} {H : Hp} {ι : List Addr} {vs : List V} {ds : List D} (h : RDs K H ι vs ds) (lo hi : Option Int) : RDs K H ι (cutV vs lo hi) (cutD ds lo hi) := by
  unfold cutV cutD
  rw [h.length]
  exact (h.drop _).take _
def gSl (rx : R) (lo hi : Option Int) : M R := fun e S => match rx with
  | .d (.tup ds) => some (.d (.tup (cutD ds lo hi)), e, S)
  | .d (.str z) => if z.length ≤ 1000000 then some (.d (.str (cutS z lo hi)), e, S) else none
  | rx => (match look rx e S with
    | some (.lst ds) => some (.new (.lst (cutD ds lo hi)), e, S)
    | _ => none)
def mSl (ma : M R) (ml mh : M (Option Int)) : M R := bnd ma fun x => bnd ml fun l => bnd mh fun h => gSl x l h
theorem cutD_whole {ds : List D} {lo hi : Option Int} (h : HT.sIx ds.length 0 lo = 0 ∧ HT.sIx ds.length ds.length hi = ds.length) : cutD ds lo hi = ds := by
  unfold cutD
  rw [h.1, h.2]
  simp
theorem ge_slice {lo hi : Option Expr} {ml mh : M (Option Int)} {p2 : Pos} (ha : GE X a ma) (hl : GO X lo ml) (hh : GO X hi mh) : GE X (.Subscript a (.Slice lo hi none p2) pos) (mSl ma ml mh) :=
  PE.imp (pe_slice (SlR.or (SlR.or sl_list sl_tupA) sl_str) ha hl hh) fun σ H Q q => by
    obtain ⟨ι, e, S, r, e', S', R, hm, q⟩ := q
    obtain ⟨x, e1, S1, h1, hm⟩ := bnd_eq hm
    obtain ⟨l, e2, S2, h2, hm⟩ := bnd_eq hm
    obtain ⟨h, e3, S3, h3, hm⟩ := bnd_eq hm
    refine ⟨ι, e, S, _, e1, S1, R, h1, fun v H1 ι1 R1 P1 r1 _ => ⟨ι1, e1, S1, _, _, _, R1, h2, fun H2 ι2 R2 P2 => ⟨ι2, e2, S2, _, _, _, R2, h3, fun H3 ι3 R3 P3 => ?_⟩⟩⟩
    have r3 := (r1.post P2).post P3
    have P13 := (P1.trans P2).trans P3
    unfold gSl at hm
    split at hm
    · cases hm
      rename_i ds
      cases r3 with
      | tup g1 g2 =>
        refine .inl (.inr ⟨_, _, rfl, g1, fun hw => ?_, fun hw p hp => ?_⟩)
        · rw [g2.length] at hw
          exact q _ H3 ι3 R3 P13 (.tup g1 (by rw [cutD_whole hw]; exact g2)) trivial
        · obtain ⟨R4, P4, _⟩ := R3.new (u := .tup (cutV _ l h)) hp
          exact q _ _ ι3 R4 (P13.trans P4) (.tup (.inl (.inl upd_same)) (RDs.mono P4.stay P4.pre _ _ (g2.cut l h))) trivial
    · split at hm
      · rename_i hz
        cases hm
        cases r3
        exact .inr ⟨_, rfl, Nat.le_trans hz line_ge, q _ H3 ι3 R3 P13 (.str _) trivial⟩
      · cases hm
    · split at hm
      · rename_i hlk
        cases hm
        obtain ⟨p, xs, rfl, g1, g2⟩ := R3.lookL r3 hlk
        refine .inl (.inl ⟨_, _, rfl, g1, fun p hp => ?_⟩)
        obtain ⟨R4, P4, n1, n2⟩ := R3.new (u := .lst (cutV xs l h)) hp
        exact q _ _ ι3 R4 (P13.trans P4) ⟨p, rfl, ⟨_, upd_same, RDs.mono P4.stay P4.pre _ _ (g2.cut l h)⟩, n1, n2⟩ ⟨p, rfl, P13.back hp⟩
      · cases hm

/-! ### built-in calls -/
variable {es : List Expr} {ms : M (List R)} {ex : Expr}
theorem tG_cb {K : PySem.W.Frag} {g : List R → M R} {σ : SV} {H : Hp} {Q : VK} (h : tG K (bnd ms g) σ H Q) : tGA K ms σ H fun vs H1 => tOA K g vs H1 Q := by
  obtain ⟨ι, e, S, r, e', S', R, hm, q⟩ := h
  obtain ⟨rs, e1, S1, h1, hm⟩ := bnd_eq hm
  exact ⟨ι, e, S, rs, e1, S1, R, h1, fun vs H1 ι1 R1 P1 r1 => ⟨ι1, σ, e1, S1, rs, r, e', S', R1, r1, hm, fun v H2 ι2 R2 P2 r2 f2 => q v H2 ι2 R2 (P1.trans P2) r2 (f2.back P1)⟩⟩
theorem ge_cb {x : Str} {id : String} {p : Pos} {g : List R → M R} (hc : CallR X (.builtin id) (tOA X.K g)) (hg : Gl X x) (hm : X.mg x = none) (hv : bootBuiltins x = some (.builtin id)) (ha : GA X (ex :: es) ms) (hn : x ≠ "__name__" := by decide) (hdb : (x == ("__debug__" : Str)) = false := by decide)
    (he : starEach (ex :: es) X.env = (false, eval ex X.env) :: starEach es X.env := by rfl) (hpl : (backTo pos (starEach es X.env)).any (·.1) = false := by rfl) : GE X (.Call (.Name x p) (ex :: es) [] pos) (bnd ms g) :=
  PE.imp (pe_callB hc hg hm hv ha hn hdb he hpl) fun σ H Q q => tG_cb q
theorem ge_ct {x : Str} {T : String} {p : Pos} {g : List R → M R} (hc : CallR X (.type T) (tOA X.K g)) (hg : Gl X x) (hm : X.mg x = none) (hv : bootBuiltins x = some (.type T)) (ha : GA X (ex :: es) ms) (hn : x ≠ "__name__" := by decide) (hdb : (x == ("__debug__" : Str)) = false := by decide)
    (he : starEach (ex :: es) X.env = (false, eval ex X.env) :: starEach es X.env := by rfl) (hpl : (backTo pos (starEach es X.env)).any (·.1) = false := by rfl) : GE X (.Call (.Name x p) (ex :: es) [] pos) (bnd ms g) :=
  PE.imp (pe_callTy hc hg hm hv ha hn hdb he hpl) fun σ H Q q => tG_cb q
theorem CallR.or {f : Value} {r r' : List V → Hp → VK → Prop} (h : CallR X f r) (h' : CallR X f r') : CallR X f (fun x H Q => r x H Q ∨ r' x H Q) := fun pins s σ H x v Q I rx q => q.elim (h pins s σ H x v Q I rx) (h' pins s σ H x v Q I rx)
/-- one argument -/
def g1 (g : R → M R) (rs : List R) : M R := match rs with
  | [r] => g r
  | _ => stk
theorem g1_of {f : Value} {r : List V → Hp → VK → Prop} {g : R → M R} (h : CallR X f r) (w : ∀ ι σ e S v rx r' e' S' H (Q : VK), Rel X.K H ι σ e S → RR X.K H ι σ e v rx → g rx e S = some (r', e', S') →
    (∀ v H' ι', Rel X.K H' ι' σ e' S' → Post H ι σ e H' ι' σ e' → RR X.K H' ι' σ e' v r' → Fresh H v r' → Q v H') → r [v] H Q) : CallR X f (tOA X.K (g1 g)) := CallR.imp h fun x H Q q => by
  obtain ⟨ι, σ, e, S, rs, r, e', S', R, hr, hm, q⟩ := q
  unfold g1 at hm
  split at hm
  · cases hr with
    | cons h1 h2 =>
      cases h2
      exact w ι σ e S _ _ r e' S' H Q R h1 hm q
  · cases hm
def gLen (r : R) : M R := fun e S => match r with
  | .d (.str x) => if x.length ≤ 1000000 then some (.d (.int x.length), e, S) else none
  | r => (seqOf r e S).map fun ds => (.d (.int ds.length), e, S)
theorem cg_len : CallR X (.builtin "len") (tOA X.K (g1 gLen)) := g1_of (CallR.or call_len_seq call_len_str) fun ι σ e S v rx r' e' S' H Q R hr hm q => by
  unfold gLen at hm
  split at hm
  · split at hm
    · cases hm
      cases hr
      exact .inr ⟨_, rfl, Nat.le_trans (by assumption) line_ge, q _ H ι R .refl (.int _) trivial⟩
    · cases hm
  · obtain ⟨ds, hd, hz⟩ := Option.map_eq_some_iff.mp hm
    cases hz
    obtain ⟨p, xs, rfl, h1, h2⟩ := R.seq hr hd
    refine .inl ⟨p, xs, rfl, h1, ?_⟩
    rw [h2.length]
    exact q _ H ι R .refl (.int _) trivial
def blsOf : List D → Option (List Bool)
  | [] => some []
  | .bl b :: ds => (blsOf ds).map (b :: ·)
  | _ :: _ => none
theorem RDs.bls {K : PySem.W.Frag} {H : Hp} {ι : List Addr} : ∀ {vs : List V} {ds : List D} {bs : List Bool}, RDs K H ι vs ds → blsOf ds = some bs → vs = bs.map V.bl
  | _, [], _, .nil, e => by cases e; rfl
  | _, d :: ds, bs, .cons h1 h2, e => by
    cases d with
    | bl b =>
      obtain ⟨cs, e1, e2⟩ := Option.map_eq_some_iff.mp (show (blsOf ds).map (b :: ·) = some bs from e)
      subst e2
      cases h1
      rw [RDs.bls h2 e1]
      rfl
    | _ => cases e
def lstOf (r : R) (e : En) (S : Sto) : Option (List D) := match look r e S with
  | some (.lst ds) => some ds
  | _ => none
theorem Rel.lst {K : PySem.W.Frag} {H : Hp} {ι : List Addr} {σ : SV} {e : En} {S : Sto} {v : V} {r : R} {ds : List D} (R : Rel K H ι σ e S) (hr : RR K H ι σ e v r) (h : lstOf r e S = some ds) : ∃ a xs, v = .ref a ∧ SqL K H a xs ∧ RDs K H ι xs ds := by
  unfold lstOf at h
  split at h
  · cases h; exact R.lookL hr (by assumption)
  · cases h
def gBls (f : List Bool → Bool) (r : R) : M R := fun e S => (lstOf r e S).bind fun ds => (blsOf ds).map fun bs => (.d (.bl (f bs)), e, S)
theorem cg_all (hc : X.calm = true) : CallR X (.builtin "all") (tOA X.K (g1 (gBls fun bs => bs.all id))) := g1_of (cr_all hc) fun ι σ e S v rx r' e' S' H Q R hr hm q => by
  obtain ⟨ds, hd, hm⟩ := Option.bind_eq_some_iff.mp hm
  obtain ⟨bs, hb, hz⟩ := Option.map_eq_some_iff.mp hm
  cases hz
  obtain ⟨p, xs, rfl, h1, h2⟩ := R.lst hr hd
  have h3 := h2.bls hb
  subst h3
  exact ⟨p, bs, rfl, h1, q _ H ι R .refl (.bl _) trivial⟩
def gTuple (r : R) : M R := fun e S => (seqOf r e S).map fun ds => (.d (.tup ds), e, S)
theorem cg_tuple : CallR X (.type "tuple") (tOA X.K (g1 gTuple)) := g1_of call_tuple_of fun ι σ e S v rx r' e' S' H Q R hr hm q => by
  obtain ⟨ds, hd, hz⟩ := Option.map_eq_some_iff.mp hm
  cases hz
  obtain ⟨p, xs, rfl, h1, h2⟩ := R.seq hr hd
  refine ⟨p, xs, rfl, ?_⟩
  rcases h1 with h1 | h1
  · refine .inl ⟨h1, fun l hl => ?_⟩
    obtain ⟨R4, P4, _⟩ := R.new (u := .tup xs) hl
    exact q _ _ ι R4 P4 (.tup (.inl (.inl upd_same)) (RDs.mono P4.stay P4.pre _ _ h2)) trivial
  · exact .inr ⟨h1, q _ H ι R .refl (.tup h1 h2) trivial⟩
def gList (r : R) : M R := fun e S => (seqOf r e S).map fun ds => (.new (.lst ds), e, S)
def gInt (r : R) : M R := fun e S => match r with
  | .d (.int i) => some (.d (.int i), e, S)
  | .d (.bl b) => some (.d (.int (if b then 1 else 0)), e, S)
  | _ => none
theorem cg_int : CallR X (.type "int") (tOA X.K (g1 gInt)) := g1_of call_int1 fun ι σ e S v rx r' e' S' H Q R hr hm q => by
  unfold gInt at hm
  split at hm <;> cases hm
  · cases hr; exact .inl ⟨_, rfl, q _ H ι R .refl (.int _) trivial⟩
  · cases hr; exact .inr ⟨_, rfl, q _ H ι R .refl (.int _) trivial⟩
def gAbs (r : R) : M R := fun e S => match r with
  | .d (.int i) => some (.d (.int (if i < 0 then -i else i)), e, S)
  | _ => none
/-- dict(pairs) -/
def prsOf : List D → Option (List (Key × D))
  | [] => some []
  | .tup [k, v] :: ds => (keyOf k).bind fun k => (prsOf ds).map ((k, v) :: ·)
  | _ :: _ => none
def putD (kvs : List (Key × D)) (k : Key) (v : D) : List (Key × D) :=
  if (kvs.any fun kv => decide (kv.1 = k)) = true then kvs.map (fun kv => if kv.1 = k then (kv.1, v) else kv) else kvs ++ [(k, v)]
def mergeD (kvs more : List (Key × D)) : List (Key × D) := more.foldl (fun acc kv => putD acc kv.1 kv.2) kvs
section
variable {K : PySem.W.Frag} {H : Hp} {ι : List Addr}
theorem RK.any {ws : List (Key × V)} {kvs : List (Key × D)} (h : RK K H ι ws kvs) (k : Key) : (ws.any fun kv => decide (kv.1 = k)) = (kvs.any fun kv => decide (kv.1 = k)) := by
  induction h with
  | nil => rfl
  | cons h1 _ ih => rw [List.any_cons, List.any_cons, ih, h1.1]
theorem RK.putMap {ws : List (Key × V)} {kvs : List (Key × D)} {v : V} {d : D} (h : RK K H ι ws kvs) (k : Key) (r : RD K H ι v d) : RK K H ι (ws.map fun kv => if kv.1 = k then (kv.1, v) else kv) (kvs.map fun kv => if kv.1 = k then (kv.1, d) else kv) := by
  induction h with
  | nil => exact .nil
  | cons h1 _ ih =>
    refine .cons ?_ ih
    obtain ⟨e1, r1⟩ := h1
    dsimp only
    rename_i p q _ _ _
    by_cases hk : q.1 = k
    · rw [if_pos (e1.trans hk), if_pos hk]; exact ⟨e1, r⟩
    · rw [if_neg (fun z => hk (e1 ▸ z)), if_neg hk]; exact ⟨e1, r1⟩
theorem RK.append {ws ws' : List (Key × V)} {kvs kvs' : List (Key × D)} (h : RK K H ι ws kvs) (h' : RK K H ι ws' kvs') : RK K H ι (ws ++ ws') (kvs ++ kvs') := by
  induction h with
  | nil => exact h'
  | cons h1 _ ih => exact .cons h1 ih
theorem RK.put {ws : List (Key × V)} {kvs : List (Key × D)} {v : V} {d : D} (h : RK K H ι ws kvs) (k : Key) (r : RD K H ι v d) : RK K H ι (putK ws k v) (putD kvs k d) := by
  unfold putK putD
  rw [h.any k]
  split
  · exact h.putMap k r
  · exact h.append (.cons ⟨rfl, r⟩ .nil)
theorem RK.merge : ∀ {ms : List (Key × V)} {nds : List (Key × D)} {ws : List (Key × V)} {kvs : List (Key × D)}, RK K H ι ms nds → RK K H ι ws kvs → RK K H ι (mergeK ws ms) (mergeD kvs nds)
  | _, _, _, _, .nil, h => h
  | _, _, _, _, .cons h1 h2, h => by
    unfold mergeK mergeD
    rw [List.foldl_cons, List.foldl_cons, h1.1]
    exact RK.merge h2 (h.put _ h1.2)
theorem RDs.prs : ∀ {vs : List V} {ds : List D} {kvs : List (Key × D)}, RDs K H ι vs ds → prsOf ds = some kvs → ∃ (ps : List Addr) (ws : List (Key × V)), vs = ps.map V.ref ∧ Paired (fun p kv => SqT K H p [kV kv.1, kv.2]) ps ws ∧ RK K H ι ws kvs
  | _, [], _, .nil, e => by cases e; exact ⟨[], [], rfl, .nil, .nil⟩
  | _, d :: ds, kvs, .cons h1 h2, e => by
    unfold prsOf at e
    split at e
    · rename_i hh; cases hh
    · rename_i kd vd ds' hh
      cases hh
      obtain ⟨k, hk, e⟩ := Option.bind_eq_some_iff.mp e
      obtain ⟨cs, e1, e2⟩ := Option.map_eq_some_iff.mp e
      subst e2
      obtain ⟨ps, ws, e3, hp, hr⟩ := RDs.prs h2 e1
      cases h1 with
      | tup g1 g2 =>
        cases g2 with
        | cons g3 g4 =>
          cases g4 with
          | cons g5 g6 =>
            cases g6
            rename_i a _ _
            have ek := keyOf_v g3 hk
            subst ek
            exact ⟨a :: ps, (k, _) :: ws, by rw [e3]; rfl, .cons g1 hp, .cons ⟨rfl, g5⟩ hr⟩
    · cases e
end
def gDict (r : R) : M R := fun e S => (lstOf r e S).bind fun ds => (prsOf ds).map fun kvs => (.new (.dct (mergeD [] kvs)), e, S)
/-- sorted(a dict whose keys are texts) -/
def leS (a b : Str) : Bool := !ltCps b.cps.toList a.cps.toList
def srtS (ks : List Str) : List Str := ks.mergeSort leS
theorem ltCps_lt : ∀ x y : List Nat, ltCps x y = decide (x < y)
  | [], [] => by simp [ltCps]
  | [], _ :: _ => by simp [ltCps]
  | _ :: _, [] => by simp [ltCps]
  | a :: r, b :: t => by
    unfold ltCps
    rw [ltCps_lt r t]
    by_cases h1 : a < b
    · simp [h1, List.cons_lt_cons_iff]
    · by_cases h2 : a = b
      · subst h2; simp [List.cons_lt_cons_iff]
      · simp [h1, h2, List.cons_lt_cons_iff]
theorem leS_le (a b : Str) : leS a b = true ↔ a.cps.toList ≤ b.cps.toList := by
  unfold leS
  rw [ltCps_lt]
  simp
theorem leS_trans (a b c : Str) (h1 : leS a b = true) (h2 : leS b c = true) : leS a c = true := by
  rw [leS_le] at *
  exact List.le_trans h1 h2
theorem rising_pw : ∀ (r : List Str) (p : Str), risingS p r = true → (p :: r).Pairwise fun a b => leS a b = true
  | [], _, _ => by simp
  | x :: r, p, h => by
    unfold risingS at h
    rw [Bool.and_eq_true] at h
    have ih := rising_pw r x h.2
    refine List.Pairwise.cons (fun y hy => ?_) ih
    rcases List.mem_cons.mp hy with rfl | hy
    · exact h.1
    · exact leS_trans p x y h.1 ((List.pairwise_cons.mp ih).1 y hy)
def keysS : List (Key × D) → Option (List Str)
  | [] => some []
  | (.inr x, _) :: r => (keysS r).map (x :: ·)
  | (.inl _, _) :: _ => none
theorem RK.keysS {K : PySem.W.Frag} {H : Hp} {ι : List Addr} : ∀ {ws : List (Key × V)} {kvs : List (Key × D)} {ks : List Str}, RK K H ι ws kvs → G.keysS kvs = some ks → ws.map (·.1) = ks.map Sum.inr
  | _, _, _, .nil, e => by cases e; rfl
  | _, (k, d) :: kvs, ks, .cons h1 h2, e => by
    cases k with
    | inl i => cases e
    | inr x =>
      obtain ⟨cs, e1, e2⟩ := Option.map_eq_some_iff.mp (show (G.keysS kvs).map (x :: ·) = some ks from e)
      subst e2
      rw [List.map_cons, List.map_cons, RK.keysS h2 e1, h1.1]
def gSortedK (r : R) : M R := fun e S => match look r e S with
  | some (.dct kvs) => (G.keysS kvs).bind fun ks => if ks.length < 64 then some (.new (.lst ((srtS ks).map D.str)), e, S) else none
  | _ => none
theorem RDs.strs {K : PySem.W.Frag} {H : Hp} {ι : List Addr} : ∀ ks : List Str, RDs K H ι (ks.map V.str) (ks.map D.str)
  | [] => .nil
  | k :: ks => .cons (.str k) (RDs.strs ks)
end
end G

set_option Elab.async false
set_option linter.all false
set_option maxRecDepth 1000000
set_option maxHeartbeats 2000000
/-! G10: isinstance, methods, items stored, further things walked. -/
namespace G
variable [Wld]
open PySem PySem.Spec PyProof.Rows L2

/-! ### isinstance -/
inductive Kd where
  | non | bl | int | str | tup | lst | dct
def Kd.nm : Kd → String
  | .non => "NoneType" | .bl => "bool" | .int => "int" | .str => "str" | .tup => "tuple" | .lst => "list" | .dct => "dict"
inductive Cl where
  | int | bool | str | tuple | list | dict
def Cl.nm : Cl → String
  | .int => "int" | .bool => "bool" | .str => "str" | .tuple => "tuple" | .list => "list" | .dict => "dict"
def isK : Kd → Cl → Bool
  | .bl, .bool => true | .bl, .int => true | .int, .int => true | .str, .str => true | .tup, .tuple => true | .lst, .list => true | .dct, .dict => true
  | _, _ => false
theorem isK_ok (k : Kd) (c : Cl) : kitB k.nm c.nm = some (isK k c) := by cases k <;> cases c <;> decide +kernel
def kdO : O → Option Kd
  | .lst _ => some .lst
  | .dct _ => some .dct
  | .kd _ => none
  | .tab _ => none
  | .ins _ _ _ => none
  | .kx _ => none
def kd (r : R) (e : En) (S : Sto) : Option Kd := match r with
  | .d .non => some .non
  | .d (.bl _) => some .bl
  | .d (.int _) => some .int
  | .d (.str _) => some .str
  | .d (.tup _) => some .tup
  | r => (look r e S).bind kdO
def mIsi (c : Cl) (m : M R) : M R := bnd m fun r e S => (kd r e S).map fun k => (.d (.bl (isK k c)), e, S)
theorem TyX.sq {K : PySem.W.Frag} {H : Hp} {a : Addr} {xs : List V} (h : SqT K H a xs) : TyX K H (.ref a) (.type "tuple") := by
  rcases h with (h | ⟨o, h⟩) | ⟨o, its, n, h, hc, _⟩
  · exact .base (.tup h)
  · exact .fTuple h
  · exact .kTuple h hc
theorem Rel.kd {K : PySem.W.Frag} {H : Hp} {ι : List Addr} {σ : SV} {e : En} {S : Sto} {v : V} {r : R} {k : Kd} (R : Rel K H ι σ e S) (hr : RR K H ι σ e v r) (h : kd r e S = some k) : TyX K H v (.type k.nm) := by
  unfold G.kd at h
  split at h
  · cases h; cases hr; exact .base .non
  · cases h; cases hr; exact .base (.bl _)
  · cases h; cases hr; exact .base (.int _)
  · cases h; cases hr; exact .base (.str _)
  · cases h; cases hr with | tup h1 h2 => exact TyX.sq h1
  · obtain ⟨o, ho, hk⟩ := Option.bind_eq_some_iff.mp h
    obtain ⟨a, rfl, h1 | ⟨xs, ds, h1, e1, _⟩ | ⟨ob, ws, kvs, h1, e1, _⟩⟩ := R.look hr ho
    · cases o with
      | lst ds => cases hk; obtain ⟨xs, h2, _⟩ := h1; exact .base (.lst h2)
      | dct kvs => cases hk; obtain ⟨ws, h2, _⟩ := h1; exact .base (.dK h2)
      | kd kvs => cases hk
      | tab q => cases hk
      | ins _ _ _ => cases hk
      | kx _ => cases hk
    · subst e1
      cases hk
      rcases h1 with ⟨ob, h1⟩ | ⟨ob, its, n, h1, h2, _⟩
      · exact .base (.frz h1)
      · exact .kList h1 h2
    · subst e1; cases hk; exact .fDict h1
section
variable {X : Cx} {ex a b o : Expr} {es : List Expr} {m ma mb mo : M R} {ms : M (List R)} {pos apos p p2 : Pos}
theorem ge_isi {y : Str} (c : Cl) (hg : Gl X "isinstance") (hm : X.mg "isinstance" = none) (hg2 : Gl X y) (hm2 : X.mg y = none) (hv2 : bootBuiltins y = some (.type c.nm)) (h : GE X ex m)
    (hy : y ≠ "__name__" := by decide) (hyd : (y == ("__debug__" : Str)) = false := by decide)
    (hb : bootBuiltins "isinstance" = some (.builtin "isinstance") := by decide +kernel)
    (hs : starEach [ex, .Name y p2] X.env = (false, eval ex X.env) :: starEach [.Name y p2] X.env := by rfl) :
    GE X (.Call (.Name "isinstance" p) [ex, .Name y p2] [] pos) (mIsi c m) :=
  PE.imp (pe_callB call_isi hg hm hb (pa_cons h (pa_cons (pe_bltn (v := .ty c.nm) hg2 hm2 hv2 rfl hy hyd) pa_nil) hs) (by decide) (by decide) hs) fun σ H Q q => by
    obtain ⟨ι, e, S, r, e', S', R, hm, q⟩ := q
    obtain ⟨x, e1, S1, h1, hm⟩ := bnd_eq hm
    obtain ⟨k, hk, hz⟩ := Option.map_eq_some_iff.mp (show (kd x e1 S1).map (fun k => (G.R.d (.bl (isK k c)), e1, S1)) = some (r, e', S') from hm)
    cases hz
    exact ⟨ι, e, S, x, _, _, R, h1, fun v H1 ι1 R1 P1 r1 _ => ⟨v, .ty c.nm, _, _, isK k c, rfl, .ty _, R1.kd r1 hk, isK_ok k c, q _ H1 ι1 R1 P1 (.bl _) trivial⟩⟩

/-! ### methods of built-in types -/
def tOM (K : PySem.W.Frag) (g : R → List R → M R) : V → List V → Hp → VK → Prop := fun x xs H Q => ∃ ι σ e S rx rs r e' S', Rel K H ι σ e S ∧ RR K H ι σ e x rx ∧ RRs K H ι σ e xs rs ∧ g rx rs e S = some (r, e', S') ∧
  ∀ v H' ι', Rel K H' ι' σ e' S' → Post H ι σ e H' ι' σ e' → RR K H' ι' σ e' v r → Fresh H v r → Q v H'
theorem MtR.imp {id : String} {r r' : V → List V → Hp → VK → Prop} (h : MtR X id r) (w : ∀ x xs H Q, r' x xs H Q → r x xs H Q) : MtR X id r' := fun pins s σ H x xs v us Q I rx rs q => h pins s σ H x xs v us Q I rx rs (w _ _ _ _ q)
/-- the receiver is of this type -/
def isTy (T : String) (r : R) (e : En) (S : Sto) : Bool := if T = "str" then (match r with
  | .d (.str _) => true
  | _ => false) else if T = "list" then (match look r e S with
  | some (.lst _) => true
  | _ => false) else false
def chk (T : String) (r : R) : M R := fun e S => if isTy T r e S then some (r, e, S) else none
def mMth (T : String) (g : R → List R → M R) (mo : M R) (ms : M (List R)) : M R := bnd (bnd mo (chk T)) fun x => bnd ms fun ys => g x ys
theorem Rel.ty {K : PySem.W.Frag} {H : Hp} {ι : List Addr} {σ : SV} {e : En} {S : Sto} {v : V} {r : R} {T : String} (R : Rel K H ι σ e S) (hr : RR K H ι σ e v r) (h : isTy T r e S = true) : tyV K T v H := by
  unfold isTy at h
  split at h
  · rename_i hT
    split at h
    · cases hr; exact hT
    · cases h
  · split at h
    · rename_i hT
      split at h
      · obtain ⟨a, xs, rfl, h1, _⟩ := R.lookL hr (by assumption)
        exact .inl ⟨hT, xs, h1⟩
      · cases h
    · cases h
theorem chk_eq {T : String} {r : R} {e : En} {S : Sto} {z} (h : chk T r e S = some z) : isTy T r e S = true ∧ z = (r, e, S) := by
  unfold chk at h
  split at h
  · exact ⟨by assumption, (Option.some.inj h).symm⟩
  · cases h
theorem ge_m {T id : String} {name : Str} {g : R → List R → M R} (pa : PlainAttrs T) (slot : Slot T name id) (hty : typeOf (.builtin id) = pure (.type "method_descriptor")) (hm : MtR X id (tOM X.K g)) (ho : GE X o mo) (ha : GA X (ex :: es) ms)
    (hbase : attributeBase o name X.env (eval o X.env) = eval o X.env := by rfl)
    (hfew : ((backTo pos (starEach (ex :: es) X.env)).all (fun x => !x.1) && (backToKw pos (keywordEach [] X.env)).all (fun x => x.1.isSome)
      && decide ((ex :: es).length + ([] : List Keyword).length + (if ([] : List Keyword).isEmpty then 0 else 1) < 30)) = true := by rfl)
    (hline : (apos.endLine == pos.line) = true := by rfl) (hs : starEach (ex :: es) X.env = (false, eval ex X.env) :: starEach es X.env := by rfl) (hplain : (backTo pos (starEach es X.env)).any (·.1) = false := by rfl) :
    GE X (.Call (.Attribute o name apos) (ex :: es) [] pos) (mMth T g mo ms) :=
  PE.imp (pe_bm pa slot hty hm ho ha hbase hfew hline hs hplain) fun σ H Q q => by
    obtain ⟨ι, e, S, r, e', S', R, hm, q⟩ := q
    obtain ⟨x, e1, S1, h1, hm⟩ := bnd_eq hm
    obtain ⟨x', e0, S0, h0, hc⟩ := bnd_eq h1
    obtain ⟨ht, hz⟩ := chk_eq hc
    cases hz
    obtain ⟨ys, e2, S2, h2, hm⟩ := bnd_eq hm
    exact ⟨ι, e, S, _, _, _, R, h0, fun v H1 ι1 R1 P1 r1 _ => ⟨R1.ty r1 ht, ι1, _, _, ys, e2, S2, R1, h2, fun vs H2 ι2 R2 P2 r2 => ⟨ι2, σ, e2, S2, _, ys, r, e', S', R2, r1.post P2, r2, hm, fun v H3 ι3 R3 P3 r3 f3 => q v H3 ι3 R3 ((P1.trans P2).trans P3) r3 (f3.back (P1.trans P2))⟩⟩⟩
/-- a list is written -/
theorem Rel.writeL {K : PySem.W.Frag} {H : Hp} {ι : List Addr} {σ : SV} {e : En} {S : Sto} {v : V} {r : R} {ds : List D} (R : Rel K H ι σ e S) (hr : RR K H ι σ e v r) (hl : G.look r e S = some (.lst ds)) (hw : isW r = true) :
    ∃ a xs, v = .ref a ∧ H a = some (.lst xs) ∧ RDs K H ι xs ds ∧ ∀ ys es, RDs K H ι ys es → Rel K (upd H a (.lst ys)) ι σ (putE r (.lst es) e) (putS r (.lst es) S) ∧ Post H ι σ e (upd H a (.lst ys)) ι σ (putE r (.lst es) e) := by
  obtain ⟨a, rfl, ro, w⟩ := R.write hr hl hw
  have st := fun u n => ro.stay u n (fun _ z => by cases z)
  obtain ⟨xs, h1, h2⟩ := ro
  exact ⟨a, xs, rfl, h1, h2, fun ys es h => w _ _ ⟨ys, upd_same, RDs.mono (st _ lmu_lst) ⟨[], by simp⟩ _ _ h⟩⟩
def wrL (r : R) (f : List D → Option (R × List D)) : M R := fun e S => match look r e S with
  | some (.lst ds) => if isW r then (f ds).map fun (x, es) => (x, putE r (.lst es) e, putS r (.lst es) S) else none
  | _ => none
theorem wrL_eq {r : R} {f : List D → Option (R × List D)} {e : En} {S : Sto} {z} (h : wrL r f e S = some z) : ∃ ds x es, look r e S = some (.lst ds) ∧ isW r = true ∧ f ds = some (x, es) ∧ z = (x, putE r (.lst es) e, putS r (.lst es) S) := by
  unfold wrL at h
  split at h
  · split at h
    · obtain ⟨⟨x, es⟩, h1, h2⟩ := Option.map_eq_some_iff.mp h
      exact ⟨_, x, es, by assumption, by assumption, h1, h2.symm⟩
    · cases h
  · cases h
def gAppend (r : R) (rs : List R) : M R := match rs with
  | [.d x] => wrL r fun ds => if ds.length < 1000000 then some (.d .non, ds ++ [x]) else none
  | _ => stk
theorem lt_line {n : Nat} (h : n < 1000000) : n < sizeLine := Nat.lt_of_lt_of_le h line_ge
theorem mg_append : MtR X "list.append" (tOM X.K gAppend) := MtR.imp mt_append fun x xs H Q q => by
  obtain ⟨ι, σ, e, S, rx, rs, r, e', S', R, hx, hs, hm, q⟩ := q
  unfold gAppend at hm
  split at hm
  · obtain ⟨ds, x', es, h1, h2, h3, hz⟩ := wrL_eq hm
    cases hz
    split at h3
    · cases h3
      rename_i hl
      cases hs with
      | cons g1 g2 =>
        cases g2
        obtain ⟨a, us, rfl, k1, k2, k3⟩ := R.writeL hx h1 h2
        obtain ⟨R2, P2⟩ := k3 _ _ (k2.append (.cons g1 .nil))
        exact ⟨a, us, _, rfl, rfl, k1, lt_line (by rw [k2.length]; exact hl), q _ _ ι R2 P2 .non trivial⟩
    · cases h3
  · cases hm
def gPop (r : R) (rs : List R) : M R := match rs with
  | [] => wrL r fun ds => (ds[ds.length - 1]?).map fun d => (.d d, ds.dropLast)
  | [.d (.int i)] => wrL r fun ds => if -(2 ^ 63) ≤ i ∧ i < 2 ^ 63 then (seqIndex? i ds.length).bind fun k => (ds[k]?).map fun d => (.d d, ds.eraseIdx k) else none
  | _ => stk
theorem RDs.dropLast {K : PySem.W.Frag} {H : Hp} {ι : List Addr} {vs : List V} {ds : List D} (h : RDs K H ι vs ds) : RDs K H ι vs.dropLast ds.dropLast := by
  rw [List.dropLast_eq_take, List.dropLast_eq_take, h.length]
  exact h.take _
theorem RDs.eraseIdx {K : PySem.W.Frag} {H : Hp} {ι : List Addr} {vs : List V} {ds : List D} (h : RDs K H ι vs ds) (k : Nat) : RDs K H ι (vs.eraseIdx k) (ds.eraseIdx k) := by
  rw [List.eraseIdx_eq_take_drop_succ, List.eraseIdx_eq_take_drop_succ]
  exact (h.take _).append (h.drop _)
theorem mg_pop : MtR X "list.pop" (tOM X.K gPop) := MtR.imp (MtR.or mt_pop mt_popAt) fun x xs H Q q => by
  obtain ⟨ι, σ, e, S, rx, rs, r, e', S', R, hx, hs, hm, q⟩ := q
  unfold gPop at hm
  split at hm
  · obtain ⟨ds, x', es, h1, h2, h3, hz⟩ := wrL_eq hm
    cases hz
    obtain ⟨d, hd, hz⟩ := Option.map_eq_some_iff.mp h3
    cases hz
    cases hs
    obtain ⟨a, us, rfl, k1, k2, k3⟩ := R.writeL hx h1 h2
    obtain ⟨y, hy, ry⟩ := k2.get hd
    obtain ⟨R2, P2⟩ := k3 _ _ k2.dropLast
    exact .inl ⟨a, us, y, rfl, rfl, k1, by rw [k2.length]; exact hy, q _ _ ι R2 P2 (RD.mono P2.stay P2.pre _ _ ry) trivial⟩
  · obtain ⟨ds, x', es, h1, h2, h3, hz⟩ := wrL_eq hm
    cases hz
    split at h3
    · rename_i hi
      obtain ⟨k, hk, h3⟩ := Option.bind_eq_some_iff.mp h3
      obtain ⟨d, hd, hz⟩ := Option.map_eq_some_iff.mp h3
      cases hz
      cases hs with
      | cons g1 g2 =>
        cases g2
        cases g1
        obtain ⟨a, us, rfl, k1, k2, k3⟩ := R.writeL hx h1 h2
        obtain ⟨y, hy, ry⟩ := k2.get hd
        obtain ⟨R2, P2⟩ := k3 _ _ (k2.eraseIdx k)
        exact .inr ⟨a, us, _, k, y, rfl, rfl, k1, hi.1, hi.2, by rw [k2.length]; exact hk, hy, q _ _ ι R2 P2 (RD.mono P2.stay P2.pre _ _ ry) trivial⟩
    · cases h3
  · cases hm
/-- xs.index(x): the first place of what == x -/
def idxD (x : D) (ds : List D) : Option Nat := ds.findIdx? fun y => eqS y x
def gIndex (r : R) (rs : List R) : M R := fun e S => match rs with
  | [.d x] => (lstOf r e S).bind fun ds => if flat x && ds.all flat then (idxD x ds).map fun j => (.d (.int (j : Nat)), e, S) else none
  | _ => none
/-- sep.join(xs) -/
def strsOf : List D → Option (List Str)
  | [] => some []
  | .str x :: ds => (strsOf ds).map (x :: ·)
  | _ :: _ => none
theorem RDs.ofStrs {K : PySem.W.Frag} {H : Hp} {ι : List Addr} : ∀ {vs : List V} {ds : List D} {bs : List Str}, RDs K H ι vs ds → strsOf ds = some bs → vs = bs.map V.str
  | _, [], _, .nil, e => by cases e; rfl
  | _, d :: ds, bs, .cons h1 h2, e => by
    cases d with
    | str b =>
      obtain ⟨cs, e1, e2⟩ := Option.map_eq_some_iff.mp (show (strsOf ds).map (b :: ·) = some bs from e)
      subst e2
      cases h1
      rw [RDs.ofStrs h2 e1]
      rfl
    | _ => cases e
def gJoin (r : R) (rs : List R) : M R := fun e S => match r, rs with
  | .d (.str a), [x] => (seqOf x e S).bind fun ds => (strsOf ds).bind fun ys => if (ys.map (·.length)).sum + ys.length * a.length ≤ 16777216 then some (.d (.str (Txt.join a ys)), e, S) else none
  | _, _ => none

/-! ### o[i] = v -/
def setIt (ro ri : R) (x : D) : M Fl := fun e S => match look ro e S, ri with
  | some (.lst ds), .d (.int k) => if isW ro then (ixN ds.length k).map fun j => (.nx, putE ro (.lst (ds.set j x)) e, putS ro (.lst (ds.set j x)) S) else none
  | _, _ => none
theorem setIt_eq {ro ri : R} {x : D} {e : En} {S : Sto} {z} (h : setIt ro ri x e S = some z) : ∃ ds k j, look ro e S = some (.lst ds) ∧ ri = .d (.int k) ∧ isW ro = true ∧ ixN ds.length k = some j ∧ z = (.nx, putE ro (.lst (ds.set j x)) e, putS ro (.lst (ds.set j x)) S) := by
  unfold setIt at h
  split at h
  · split at h
    · obtain ⟨j, h1, h2⟩ := Option.map_eq_some_iff.mp h
      exact ⟨_, _, j, by assumption, rfl, by assumption, h1, h2.symm⟩
    · cases h
  · cases h
def mSetI (mv mo mi : M R) : M Fl := bnd mv fun v => match v with
  | .d x => bnd mo fun o => bnd mi fun i => setIt o i x
  | _ => stk
theorem gs_setI {mv mi : M R} {i value : Expr} {pos' : Pos} (hv : GE X value mv) (ho : GE X o mo) (hi : GE X i mi)
    (hs : swapsWithSole [.Subscript o i pos'] value pos.line X.env = pure false := by rfl) (hw : swappedStores [.Subscript o i pos'] value X.env = pure none := by rfl)
    (ha : ∀ v, assign (.Subscript o i pos') X.env v = (do
      let ov ← holding [v] (eval o X.env)
      let iv ← holding [v, ov] (eval i X.env)
      standAt pos'
      holding [v, ov, iv] (setItem ov iv v)
      release [v, ov, iv] []) := by intro _; rfl)
    (h1 : (assignEach [.Subscript o i pos'] X.env).map (·.2) = [assign (.Subscript o i pos') X.env] := by rfl) :
    GS X (.Assign [.Subscript o i pos'] value pos) (mSetI mv mo mi) := PS.imp (ps_asg hv (pg_sub ho hi set_list ha) hs hw h1) fun D σ H q => by
  obtain ⟨ι, e, S, fl, e', S', R, hm, q⟩ := q
  obtain ⟨x, e1, S1, h1, hm⟩ := bnd_eq hm
  refine ⟨ι, e, S, x, e1, S1, R, h1, fun v H1 ι1 R1 P1 r1 _ => ?_⟩
  cases x with
  | d x =>
    obtain ⟨ro, e2, S2, h2, hm⟩ := bnd_eq (show bnd mo (fun o => bnd mi fun i => setIt o i x) e1 S1 = some (fl, e', S') from hm)
    obtain ⟨ri, e3, S3, h3, hm⟩ := bnd_eq hm
    obtain ⟨ds, k, j, g1, rfl, g3, g4, hz⟩ := setIt_eq hm
    cases hz
    refine ⟨ι1, e1, S1, ro, e2, S2, R1, h2, fun vo H2 ι2 R2 P2 r2 _ => ⟨ι2, e2, S2, _, e3, S3, R2, h3, fun vi H3 ι3 R3 P3 r3 _ => ?_⟩⟩
    obtain ⟨a, us, rfl, k1, k2, k3⟩ := R3.writeL (r2.post P3) g1 g3
    cases r3
    have rx : RD X.K H3 ι3 v x := (show RR X.K H3 ι3 σ e3 v (.d x) from (RR.post (r := .d x) r1 (P2.trans P3)))
    obtain ⟨R4, P4⟩ := k3 _ _ (k2.set j rx)
    exact ⟨a, us, k, j, rfl, rfl, k1, by rw [k2.length]; exact g4, q σ _ ι3 R4 (((P1.trans P2).trans P3).trans P4)⟩
  | _ => cases hm
/-- n += e, n -= e (ints) -/
def mAug (i : Nat) (f : Int → Int → Int) (m : M R) : M Fl := fun e S => match e[i]? with
  | some (some (.d (.int x))) => (match m e S with
    | some (.d (.int y), e1, S1) => if i < e1.length then some (.nx, e1.set i (some (.d (.int (f x y)))), S1) else none
    | _ => none)
  | _ => none

/-! ### further things walked -/
def srcStr (r : R) : M Src := fun e S => match r with
  | .d (.str x) => if x.cps.size ≤ 1000000 then some (⟨x.cps.toList.map fun c => .str ⟨#[c]⟩, []⟩, e, S) else none
  | _ => none
theorem srcStr_eq {r : R} {e : En} {S : Sto} {z} (h : srcStr r e S = some z) : ∃ x : Str, r = .d (.str x) ∧ x.cps.size ≤ 1000000 ∧ z = (⟨x.cps.toList.map fun c => .str ⟨#[c]⟩, []⟩, e, S) := by
  unfold srcStr at h
  split at h
  · split at h
    · exact ⟨_, rfl, by assumption, (Option.some.inj h).symm⟩
    · cases h
  · cases h
def rngD (lo : Int) (n : Nat) : List D := (List.range n).map fun (i : Nat) => D.int (lo + i)
theorem feeds_rng {K : PySem.W.Frag} {H1 : Hp} {ι1 : List Addr} {σ1 : SV} {e1 : En} (lo : Int) (n : Nat) : Feeds K ⟨rngD lo n, []⟩ (Itr lo n) H1 ι1 σ1 e1 := fun i H ι σ e S R P _ _ => by
  refine ⟨fun d hd => ?_, fun hl => ?_⟩
  · have hd' : (rngD lo n)[i]? = some d := hd
    unfold rngD at hd'
    rw [List.getElem?_map] at hd'
    obtain ⟨j, hj, rfl⟩ := Option.map_eq_some_iff.mp hd'
    obtain ⟨h1, h2⟩ := List.getElem?_eq_some_iff.mp hj
    simp at h1 h2
    subst h2
    refine ⟨h1, fun y H' hy => ?_⟩
    obtain ⟨rfl, rfl⟩ := hy
    exact ⟨R, .refl, .int _, fun _ _ h => h⟩
  · have hl' : (rngD lo n).length ≤ i := hl
    show n ≤ i
    simpa [rngD] using hl'
def srcR1 (rs : List R) : M Src := fun e S => match rs with
  | [.d (.int j)] => if -(2 ^ 62) ≤ j ∧ j ≤ 1000000 then some (⟨rngD 0 j.toNat, []⟩, e, S) else none
  | _ => none
def srcR2 (rs : List R) : M Src := fun e S => match rs with
  | [.d (.int i), .d (.int j)] => if (-(2 ^ 62) ≤ i ∧ i < 2 ^ 62 ∧ -(2 ^ 62) ≤ j ∧ j < 2 ^ 62) ∧ (j - i).toNat ≤ 1000000 then some (⟨rngD i (j - i).toNat, []⟩, e, S) else none
  | _ => none
theorem gi_range1 {tg : Expr} (hg : Gl X "range") (hm : X.mg "range" = none) (ha : GA X [a] ms) (hs : starEach [a] X.env = [(false, eval a X.env)] := by rfl) : GI X tg (.Call (.Name "range" p) [a] [] pos) (bnd ms srcR1) :=
  PI.imp (pi_range1 hg hm ha hs) fun σ H Q q => by
    obtain ⟨ι, e, S, src, e', S', R, hm, q⟩ := q
    obtain ⟨rs, e1, S1, h1, hm⟩ := bnd_eq hm
    refine ⟨ι, e, S, rs, e1, S1, R, h1, fun vs H1 ι1 R1 P1 r1 => ?_⟩
    unfold srcR1 at hm
    split at hm
    · split at hm
      · rename_i hz
        cases hm
        cases r1 with
        | cons g1 g2 =>
          cases g2
          cases g1
          refine ⟨_, rfl, hz.1, by omega, q _ H1 ι1 R1 P1 (feeds_rng 0 _) ?_⟩
          show (rngD 0 _).length ≤ _
          refine Nat.le_trans ?_ line_ge
          simp [rngD]; omega
      · cases hm
    · cases hm
/-- what a walked thing reads, as it stands later -/
def SeqAt' (K : PySem.W.Frag) (H1 : Hp) (ι1 : List Addr) (σ1 : SV) (e1 : En) (lst : Bool) (a : Addr) (ds : List D) (ws : List (R × List D)) : Prop :=
  ∀ H ι σ e S, Rel K H ι σ e S → Post H1 ι1 σ1 e1 H ι σ e → Wat ws e S → (∀ p ∈ ws, ∀ j, p.1 = .loc j → σ[j]? = σ1[j]?) → ∃ xs, (if lst then SqL K H a xs else SqT K H a xs) ∧ RDs K H ι xs ds
theorem Rel.walks {K : PySem.W.Frag} {H1 : Hp} {ι1 : List Addr} {σ : SV} {e1 : En} {S1 : Sto} {v : V} {r : R} {src : Src} {e' : En} {S' : Sto} (R1 : Rel K H1 ι1 σ e1 S1) (r1 : RR K H1 ι1 σ e1 v r) (hm : srcOf r e1 S1 = some (src, e', S')) :
    e' = e1 ∧ S' = S1 ∧ ∃ a, v = .ref a ∧ ((∃ ds, r = .d (.tup ds)) → SeqAt' K H1 ι1 σ e1 false a src.items src.ws) ∧ ((∀ ds, r ≠ .d (.tup ds)) → SeqAt' K H1 ι1 σ e1 true a src.items src.ws) ∧ Wat src.ws e1 S1 := by
  unfold srcOf at hm
  split at hm
  · cases hm
    cases r1 with
    | tup g1 g2 => exact ⟨rfl, rfl, _, rfl, fun _ H ι σ2 e S R P _ _ => ⟨_, stay_t P.stay g1, RDs.mono P.stay P.pre _ _ g2⟩, fun h => (h _ rfl).elim, fun _ h => nomatch h⟩
  · cases hm
    cases r1 with
    | lst g1 g2 => exact ⟨rfl, rfl, _, rfl, fun ⟨_, h⟩ => (nomatch h), fun _ H ι σ2 e S R P _ _ => ⟨_, (stay_l P.stay g1).sq, RDs.mono P.stay P.pre _ _ g2⟩, fun _ h => nomatch h⟩
  · cases hm
    obtain ⟨a, rfl, ro, n1, n2⟩ := r1
    exact ⟨rfl, rfl, _, rfl, fun ⟨_, h⟩ => (nomatch h), fun _ H ι σ2 e S R P _ _ => P.list ro n1 fun z => n2 (.of z), fun _ h => nomatch h⟩
  · cases hm
    obtain ⟨a, rfl, ro, n1, n2⟩ := r1
    exact ⟨rfl, rfl, _, rfl, fun ⟨_, h⟩ => (nomatch h), fun _ H ι σ2 e S R P _ _ => P.list ro n1 n2, fun _ h => nomatch h⟩
  · split at hm
    · rename_i n1 n2 n3 n4 _ ds hlk
      cases hm
      obtain ⟨a, xs, rfl, g1, g2⟩ := R1.lookL r1 hlk
      refine ⟨rfl, rfl, a, rfl, fun ⟨ds, h⟩ => (n1 ds h).elim, fun _ H2 ι2 σ2 e2 S2 R2 P2 w1 w2 => ?_, fun p hp => by cases List.mem_singleton.mp hp; exact hlk⟩
      have hl2 := w1 _ (List.mem_singleton.mpr rfl)
      have r2 : RR K H2 ι2 σ2 e2 (.ref a) r := by
        cases r with
        | d x => exact RD.mono P2.stay P2.pre _ _ r1
        | lm i cs => cases hlk
        | loc j =>
          have : σ2[j]? = σ[j]? := w2 _ (List.mem_singleton.mpr rfl) j rfl
          show σ2[j]? = _
          rw [this]
          exact r1
        | new o =>
          cases o with
          | lst ds => exact (n3 ds rfl).elim
          | dct kvs => cases hlk
          | kd kvs => cases hlk
          | tab q => cases hlk
          | ins _ _ _ => cases hlk
          | kx _ => cases hlk
        | brw o =>
          cases o with
          | lst ds => exact (n4 ds rfl).elim
          | dct kvs => cases hlk
          | kd kvs => cases hlk
          | tab q => cases hlk
          | ins _ _ _ => cases hlk
          | kx _ => cases hlk
      obtain ⟨a', xs', ea, g3, g4⟩ := R2.lookL r2 hl2
      cases ea
      exact ⟨xs', g3, g4⟩
    · cases hm
/-- zip of two lists, or of two tuples -/
def zipD (xs ys : List D) : List D := (xs.zip ys).map fun p => .tup [p.1, p.2]
def isTupR : R → Bool
  | .d (.tup _) => true
  | _ => false
def srcZip (rs : List R) : M Src := fun e S => match rs with
  | [r1, r2] => (match srcOf r1 e S, srcOf r2 e S with
    | some (s1, _, _), some (s2, _, _) => if isTupR r1 == isTupR r2 then some (⟨zipD s1.items s2.items, s1.ws ++ s2.ws⟩, e, S) else none
    | _, _ => none)
  | _ => none
theorem isTupR_iff {r : R} : isTupR r = true ↔ ∃ ds, r = .d (.tup ds) := by
  constructor
  · intro h
    unfold isTupR at h
    split at h
    · exact ⟨_, rfl⟩
    · cases h
  · rintro ⟨ds, rfl⟩; rfl
end
end G

set_option Elab.async false
set_option linter.all false
set_option maxRecDepth 1000000
set_option maxHeartbeats 2000000
/-! G11: x = [..]; a, b = x, y; recursion; the frame of a def's theorem. -/
namespace G
variable [Wld]
open PySem PySem.Spec PyProof.Rows L2
section
variable {X : Cx}
theorem gs_setLc {i : Nat} {y : Str} {py : Pos} {elt tg iter : Expr} {ifs : List Expr} {scope : Scope} {own : List (Str × Nat)} {pos spos : Pos} {mi : M Src} {t : Tgt} {mc : M Bool} {me : M R}
    (hc : X.calm = true) (hN : X.N.Nodup) (hy : X.N[i]? = some y) (hyl : X.env.scope.names.lookup y = some .local)
    (hsw : swapsWith (.ListComp elt [⟨tg, iter, ifs, 0⟩] scope pos) (some (.Name y py)) spos.line X.env = pure true) (hi : GI X tg iter mi) (ok : BlkOk X.N X.env.scope scope own)
    (hg : ∀ (s : Shared) (H : Hp) (C : Addr) (cl : List (Str × Addr)) (fp : List Addr), GG (X.blk s H scope (compEnvC scope cl C X.env) fp) (own.map (·.2)) tg t)
    (ht : ∀ (s : Shared) (H : Hp) (C : Addr) (cl : List (Str × Addr)) (fp : List Addr), GTs (X.blk s H scope (compEnvC scope cl C X.env) fp) ifs mc)
    (he : ∀ (s : Shared) (H : Hp) (C : Addr) (cl : List (Str × Addr)) (fp : List Addr), GE (X.blk s H scope (compEnvC scope cl C X.env) fp) elt me) (hs : ∀ x, foldedSetIterable iter X.env x = pure x := by intro _; rfl) :
    GS X (.Assign [.Name y py] (.ListComp elt [⟨tg, iter, ifs, 0⟩] scope pos) spos) (mSet i (mLc (own.map (·.2)) t mi mc me)) :=
  PS.imp (ps_setLc hc hN hy hyl hsw hi ok hg (fun s H C cl fp => (ht s H C cl fp).h) he hs) fun D σ H q => by
    obtain ⟨ι, e, S, fl, e', S', R, hm, q⟩ := q
    obtain ⟨r, e1, S1, h1, hm⟩ := bnd_eq hm
    obtain ⟨s, hsl, hil, hz⟩ := setS_eq hm
    cases hz
    refine tLc_of (Q := fun x H1 => gName i x σ H1 D.nx) ⟨ι, e, S, r, e1, _, R, h1, fun v H1 ι1 R1 P1 r1 f1 => ?_⟩
    obtain ⟨R2, P2⟩ := R1.put P1 r1 f1 hsl hil
    exact q _ H1 ι1 R2 P2
/-- a, b = x, y -/
def mPar2 (i j : Nat) (ma mb : M R) : M Fl := bnd ma fun x => bnd mb fun y => mSeq (setS i x) (setS j y)
def mPar3 (i j l : Nat) (ma mb mc : M R) : M Fl := bnd ma fun x => bnd mb fun y => bnd mc fun z => mSeq (setS i x) (mSeq (setS j y) (setS l z))
theorem RR.afterSet {K : PySem.W.Frag} {H : Hp} {ι : List Addr} {σ : SV} {e : En} {v w : V} {r : R} {i : Nat} {s : Sl} (h : RR K H ι σ e v r) (hr : (∃ t, toSl r = some t)) (hi : i < e.length) (hσ : i < σ.length) (hne : ∀ a, v = .ref a → w = .ref a → s.isObj → (∃ o, r = .new o) → False) : RR K H ι (σ.set i (some w)) (e.set i (some s)) v r := by
  obtain ⟨t, hr⟩ := hr
  cases r with
  | d x => exact h
  | new o =>
    obtain ⟨a, rfl, ro, n1, n2⟩ := h
    refine ⟨a, rfl, ro, n1, fun ⟨m, u, h5, h6, h7⟩ => ?_⟩
    by_cases hm : i = m
    · subst hm
      rw [List.getElem?_set_self hi] at h5
      rw [List.getElem?_set_self hσ] at h7
      cases h5
      cases h7
      exact hne a rfl rfl h6 ⟨o, rfl⟩
    · rw [List.getElem?_set_ne hm] at h5 h7
      exact n2 ⟨m, u, h5, h6, h7⟩
  | brw o => cases hr
  | lm i cs => cases hr
  | loc m => cases hr
/-- where an object stands that was there before -/
theorem fresh_ne {K : PySem.W.Frag} {H1 : Hp} {ι : List Addr} {σ : SV} {e : En} {v w : V} {r q : R} {s : Sl} (hv : RR K H1 ι σ e w q) (hq : toSl q = some s) (f : Fresh H1 v r) : ∀ a, v = .ref a → w = .ref a → s.isObj → (∃ o, r = .new o) → False := by
  rintro a rfl rfl hs ⟨o, rfl⟩
  obtain ⟨a', ea, hn⟩ := f
  cases ea
  cases q with
  | d x => cases hq; exact hs
  | new o' =>
    obtain ⟨b, eb, ro, _⟩ := hv
    cases eb
    obtain ⟨u, hu, _⟩ := ro.there
    rw [hn] at hu; cases hu
  | brw o' => cases hq
  | lm i cs => cases hq
  | loc m => cases hq
theorem gs_par2 {i j : Nat} {x y : Str} {a b : Expr} {ma mb : M R} {px py pt pos : Pos} {kt k2 pt2} (hc : X.calm = true) (hN : X.N.Nodup) (hi : X.N[i]? = some x) (hj : X.N[j]? = some y) (hij : i ≠ j)
    (hx : X.env.scope.names.lookup x = some .local) (hy : X.env.scope.names.lookup y = some .local) (ha : GE X a ma) (hb : GE X b mb)
    (hw : swappedStores [.Tuple [.Name x px, .Name y py] kt pt] (.Tuple [a, b] k2 pt2) X.env = pure (some [x, y]))
    (hs : swapsWithSole [.Tuple [.Name x px, .Name y py] kt pt] (.Tuple [a, b] k2 pt2) pos.line X.env = pure false := by rfl)
    (h1 : starEach [a, b] X.env = (false, eval a X.env) :: starEach [b] X.env := by rfl) (h2 : starEach [b] X.env = (false, eval b X.env) :: starEach [] X.env := by rfl) :
    GS X (.Assign [.Tuple [.Name x px, .Name y py] kt pt] (.Tuple [a, b] k2 pt2) pos) (mPar2 i j ma mb) := PS.imp (ps_par hc hN hi hj hij hx hy (pa_cons ha (pa_cons hb pa_nil h2) h1) hw hs) fun D σ H q => by
  obtain ⟨ι, e, S, fl, e', S', R, hm, q⟩ := q
  obtain ⟨r1, e1, S1, h1, hm⟩ := bnd_eq hm
  obtain ⟨r2, e2, S2, h2, hm⟩ := bnd_eq hm
  obtain ⟨f1, e3, S3, h3, hm⟩ := bnd_eq hm
  obtain ⟨s1, hs1, hl1, hz⟩ := setS_eq h3
  cases hz
  obtain ⟨s2, hs2, hl2, hz⟩ := setS_eq hm
  cases hz
  refine ⟨ι, e, S, r1, e1, S1, R, h1, fun v H1 ι1 R1 P1 rr1 fr1 => ⟨ι1, e1, S1, r2, e2, _, R1, h2, fun w H2 ι2 R2 P2 rr2 fr2 => ⟨v, w, rfl, ?_⟩⟩⟩
  have P12 := P1.trans P2
  obtain ⟨R3, P3⟩ := R2.put P12 (rr1.post P2) fr1 hs1 hl1
  have rr2' := rr2.afterSet (s := s1) (w := v) ⟨_, hs2⟩ hl1 (by rw [R2.len]; exact hl1) (fresh_ne rr1 hs1 fr2)
  obtain ⟨R4, P4⟩ := R3.put P3 rr2' (fr2.back P1) hs2 hl2
  exact q _ H2 ι2 R4 P4
theorem gs_par3 {i j l : Nat} {x y z : Str} {a b c : Expr} {ma mb mc : M R} {px py pz pt pos : Pos} {kt k2 pt2} (hc : X.calm = true) (hN : X.N.Nodup) (hi : X.N[i]? = some x) (hj : X.N[j]? = some y) (hl : X.N[l]? = some z) (hij : i ≠ j) (hil : i ≠ l) (hjl : j ≠ l)
    (hx : X.env.scope.names.lookup x = some .local) (hy : X.env.scope.names.lookup y = some .local) (hz : X.env.scope.names.lookup z = some .local) (ha : GE X a ma) (hb : GE X b mb) (hcc : GE X c mc)
    (hw : swappedStores [.Tuple [.Name x px, .Name y py, .Name z pz] kt pt] (.Tuple [a, b, c] k2 pt2) X.env = pure (some [x, y, z]))
    (hs : swapsWithSole [.Tuple [.Name x px, .Name y py, .Name z pz] kt pt] (.Tuple [a, b, c] k2 pt2) pos.line X.env = pure false := by rfl)
    (h1 : starEach [a, b, c] X.env = (false, eval a X.env) :: starEach [b, c] X.env := by rfl) (h2 : starEach [b, c] X.env = (false, eval b X.env) :: starEach [c] X.env := by rfl) (h3 : starEach [c] X.env = (false, eval c X.env) :: starEach [] X.env := by rfl) :
    GS X (.Assign [.Tuple [.Name x px, .Name y py, .Name z pz] kt pt] (.Tuple [a, b, c] k2 pt2) pos) (mPar3 i j l ma mb mc) := PS.imp (ps_par3 hc hN hi hj hl hij hil hjl hx hy hz (pa_cons ha (pa_cons hb (pa_cons hcc pa_nil h3) h2) h1) hw hs) fun D σ H q => by
  obtain ⟨ι, e, S, fl, e', S', R, hm, q⟩ := q
  obtain ⟨r1, e1, S1, h1, hm⟩ := bnd_eq hm
  obtain ⟨r2, e2, S2, h2, hm⟩ := bnd_eq hm
  obtain ⟨r3, e3, S3, h3, hm⟩ := bnd_eq hm
  obtain ⟨f1, e4, S4, h4, hm⟩ := bnd_eq hm
  obtain ⟨s1, hs1, hl1, hz⟩ := setS_eq h4
  cases hz
  obtain ⟨f2, e5, S5, h5, hm⟩ := bnd_eq hm
  obtain ⟨s2, hs2, hl2, hz⟩ := setS_eq h5
  cases hz
  obtain ⟨s3, hs3, hl3, hz⟩ := setS_eq hm
  cases hz
  refine ⟨ι, e, S, r1, e1, S1, R, h1, fun v1 H1 ι1 R1 P1 rr1 fr1 => ⟨ι1, e1, S1, r2, e2, S2, R1, h2, fun v2 H2 ι2 R2 P2 rr2 fr2 => ⟨ι2, e2, S2, r3, e3, _, R2, h3, fun v3 H3 ι3 R3 P3 rr3 fr3 => ⟨v1, v2, v3, rfl, ?_⟩⟩⟩⟩
  have P13 := (P1.trans P2).trans P3
  obtain ⟨R4, P4⟩ := R3.put P13 (rr1.post (P2.trans P3)) fr1 hs1 hl1
  have lσ : i < σ.length := by rw [R3.len]; exact hl1
  have rr2' := (rr2.post P3).afterSet (s := s1) (w := v1) ⟨_, hs2⟩ hl1 lσ (fresh_ne rr1 hs1 fr2)
  obtain ⟨R5, P5⟩ := R4.put P4 rr2' (fr2.back P1) hs2 hl2
  have rr3' := rr3.afterSet (s := s1) (w := v1) ⟨_, hs3⟩ hl1 lσ (fresh_ne (rr1.post P2) hs1 fr3)
  have rr3'' := rr3'.afterSet (s := s2) (w := v2) (i := j) ⟨_, hs3⟩ hl2 (by rw [R4.len]; exact hl2) (fresh_ne rr2 hs2 fr3)
  obtain ⟨R6, P6⟩ := R5.put P5 rr3'' (fr3.back (P1.trans P2)) hs3 hl3
  exact q _ H3 ι3 R6 P6
/-- code that is never come to -/
theorem gss_never {sts : List Stmt} : GSs X sts stk := PSs.imp pss_never fun D σ H q => by
  obtain ⟨ι, e, S, fl, e', S', R, hm, q⟩ := q
  cases hm
end
/-- a def that calls itself, by how deep -/
noncomputable def recF (nl : Nat) (body : Fn → M Fl) : Nat → Fn
  | 0 => fun _ _ => none
  | n + 1 => runF nl (body (recF nl body n))
section
variable {P : Program} {w : World} {K : PySem.W.Frag} {mg : Str → Option Value} {base : Heap}
theorem GF.mk' {x : Str} {k n : Nat} {m : Fn} {f : Addr} {fd : FuncData} {ps : List Str} (ok : FnG P w K mg base k f fd ps (spG K n m)) (hm : mg x = some (.ref f)) (hk : PySem.W.keepIn K (.ref f) = true) (hb : Binds K fd ps []) : GF P w K mg base k x n m := ⟨⟨f, fd, ps, ok, hm, hk, hb⟩⟩
theorem GF.mono {x : Str} {j k n : Nat} {m : Fn} (F : GF P w K mg base j x n m) (h : j ≤ k) : GF P w K mg base k x n m := by
  obtain ⟨f, fd, ps, ok, hm, hk, hb⟩ := F.ex
  exact ⟨⟨f, fd, ps, ok.mono h, hm, hk, hb⟩⟩
/-- a recursion: each depth by the one below -/
theorem GF.recur {x qual : Str} {st : Stmt} {f : Addr} {fd : FuncData} {N ps : List Str} {k : Nat} {body : Fn → M Fl} (F : Fun K x qual st f fd) (Sc : FnScope N ps (defScope st)) (hm : mg x = some (.ref f)) (hb : Binds K fd ps [])
    (h : ∀ (n : Nat) (self : Fn), GF P w K mg base (k + n + 1) x ps.length self → FnG P w K mg base (k + n + 1 + 1) f fd ps (spG K ps.length (runF (N.length - ps.length) (body self)))) :
    ∀ n, GF P w K mg base (k + n + 1) x ps.length (recF (N.length - ps.length) body n)
  | 0 => ⟨⟨f, fd, ps, fn_ok (N := N) (body := stk) F Sc fun cdv A outer s H vs Q E hr hgd => gss_never, hm, F.kp, hb⟩⟩
  | n + 1 => ⟨⟨f, fd, ps, h n _ (GF.recur F Sc hm hb h n), hm, F.kp, hb⟩⟩
end
end G

set_option Elab.async false
set_option linter.all false
set_option maxRecDepth 1000000
set_option maxHeartbeats 2000000
/-! G12: the frame of a law's text. -/
namespace G
variable [Wld]
open PySem PySem.Spec PyProof.Rows L2
structure DF (K : PySem.W.Frag) (mg : Str → Option Value) (x qual : Str) (st : Stmt) (ps : List Str) : Prop where
  ex : ∃ f fd, Fun K x qual st f fd ∧ mg x = some (.ref f) ∧ Binds K fd ps []
section
variable {P : Program} {w : World} {K : PySem.W.Frag} {mg : Str → Option Value} {base : Heap}
theorem GF.bodyOf {x qual : Str} {st : Stmt} {N ps : List Str} {k : Nat} {body : M Fl} (D : DF K mg x qual st ps) (Sc : FnScope N ps (defScope st))
    (h : ∀ (f : Addr) (cdv : Value) (A : Around) (outer : List PySem.Env) (s : Shared) (H : Hp) (vs : List V) (Q : VK) (E : XK), Room k (A.deeper (envOfC qual (defScope st) s.heap.objs.size f cdv)) → (A.deeper (envOfC qual (defScope st) s.heap.objs.size f cdv)).guards = some [] →
      GSs (cxOf CX0 P w K mg base N qual (defScope st) f cdv A outer s H E).nox (defBody st) body) :
    GF P w K mg base (k + 1) x ps.length (runF (N.length - ps.length) body) := by
  obtain ⟨f, fd, F, hm, hb⟩ := D.ex
  exact .mk' (fn_ok F Sc (h f)) hm F.kp hb
theorem GF.recOf {x qual : Str} {st : Stmt} {N ps : List Str} {k : Nat} {body : Fn → M Fl} (D : DF K mg x qual st ps) (Sc : FnScope N ps (defScope st))
    (h : ∀ (n : Nat) (self : Fn), GF P w K mg base (k + n + 1) x ps.length self → ∀ (f : Addr) (cdv : Value) (A : Around) (outer : List PySem.Env) (s : Shared) (H : Hp) (vs : List V) (Q : VK) (E : XK), Room (k + n + 1) (A.deeper (envOfC qual (defScope st) s.heap.objs.size f cdv)) → (A.deeper (envOfC qual (defScope st) s.heap.objs.size f cdv)).guards = some [] →
      GSs (cxOf CX0 P w K mg base N qual (defScope st) f cdv A outer s H E).nox (defBody st) (body self)) :
    ∀ n, GF P w K mg base (k + n + 1) x ps.length (recF (N.length - ps.length) body n) := by
  obtain ⟨f, fd, F, hm, hb⟩ := D.ex
  exact GF.recur F Sc hm hb fun n self S => fn_ok F Sc (h n self S f)
theorem DF.mk' {h : Heap} (X : K.In h) (G : h.Ns mainGlobals mg) {x qual : Str} {st : Stmt} {f : Addr} {fd : FuncData} {ps : List Str} (F : Fun K x qual st f fd) (a : PySem.W.nsIn K mainGlobals x = some (some (.ref f))) (b : Fun K x qual st f fd → Binds K fd ps []) : DF K mg x qual st ps :=
  ⟨⟨f, fd, F, PySem.W.mg_of X G a, b F⟩⟩
/-- the law's promise, from its mirror -/
theorem spG_law {f : Fn} {H : Hp} {a : Addr} {ns : List Int} (hO : Only H) (hS : SqL K H a (ns.map V.int)) {S' : Sto} (h : f [.d (.lst (ns.map D.int))] [] = some (.d (.bl true), S')) : spG K 1 f [.ref a] H (fun v _ => v = .bl true) fun _ _ _ => False := by
  have hl : LF K H a (ns.map V.int) := by
    rcases hS with (h | ⟨o, h⟩) | h
    · rcases hO a with z | ⟨o, xs, z⟩
      · rw [z] at h; cases h
      · rw [z] at h; cases h
    · exact .inl ⟨o, h⟩
    · exact .inr h
  have hr : ∀ (xs : List Int), RDs K H [] (xs.map V.int) (xs.map D.int) := fun xs => by
    induction xs with
    | nil => exact .nil
    | cons x xs ih => exact .cons (.int x) ih
  refine ⟨rfl, [], _, _, _, _, ⟨rfl, fun n o a h => by simp at h, .nil⟩, .cons (s := .d (.lst (ns.map D.int))) (.lst hl (hr ns)) (fun _ _ z => z.elim) (fun z => z) .nil, h, fun v H' ι' R' P' r => ?_⟩
  cases r
  rfl
end
end G

set_option Elab.async false
set_option linter.all false
set_option maxRecDepth 1000000
set_option maxHeartbeats 4000000
/-! G16: constants of a module, {}, t[::-1], len(set(texts)). -/
namespace G
variable [Wld]
open PySem PySem.Spec PyProof.Rows L2
section
variable {X : Cx} {pos : Pos}
theorem ge_gI {x : Str} {i : Int} (h : ∃ t, X.mg x = some (.int i t)) (hg : Gl X x) (hd : (x == ("__debug__" : Str)) = false := by decide) : GE X (.Name x pos) (mC (.int i)) := by
  obtain ⟨t, h⟩ := h
  exact ge_glob (v := .int i) hg h ⟨t, rfl⟩ (fun _ _ => .int i) hd
def mDn : M R := pur (.new (.dct []))
theorem ge_dn : GE X (.Dict [] [] pos) mDn := PE.imp pe_dnewK fun σ H Q q => by
  obtain ⟨ι, e, S, r, e', S', R, hm, q⟩ := q
  cases hm
  intro p hp
  obtain ⟨R2, P2, n1, n2⟩ := R.new (u := .dK []) hp
  exact q _ _ ι R2 P2 ⟨p, rfl, ⟨[], upd_same, .nil⟩, n1, n2⟩ ⟨p, rfl, hp⟩
end
/-! ### t[::-1] of a tuple -/
section
variable {prog : Program} {w : World} {A : Around} {E : Value → Shared → Prop} {s : Shared}
end
section
variable {X : Cx}
def tBackT (K : PySem.W.Frag) (te : TE) : TE := fun σ H Q => te σ H fun x H1 => ∃ a xs, x = .ref a ∧ SqT K H1 a xs ∧ ∀ p, H1 p = none → Q (.ref p) (upd H1 p (.tup xs.reverse))
def gBack (r : R) : M R := fun e S => match r with
  | .d (.tup ds) => some (.d (.tup ds.reverse), e, S)
  | _ => none
end
end G

set_option Elab.async false
set_option linter.all false
set_option maxRecDepth 1000000
set_option maxHeartbeats 4000000
/-! G17: len(set(a list of texts)). -/
namespace G
variable [Wld]
open PySem PySem.Spec PyProof.Rows L2
/-- each text once, as met -/
def uniq (xs : List Str) : List Str := xs.foldl (fun acc x => if x ∈ acc then acc else acc ++ [x]) []
/-- the set that holds the first i of xs -/
abbrev Held (prog : Program) (w : World) (h : Heap) (S : Addr) (xs : List Str) (i : Nat) : Prop := h.SetOf (PySem.strKind prog w) S (fun y => decide (y ∈ xs.take i)) (uniq (xs.take i)).length
section
variable {prog : Program} {w : World} {A : Around} {R : Result → Shared → Prop} {I : Addr} {fp wr : List Addr} {Gn : Array GenState → Array GenState → Prop} {n : Nat} {P : Nat → Value → Prop} {St : Nat → Shared → Prop}
end
/-- a bare set -/
abbrev bareSet (b : Bool) : PySem.Obj := { cls := .type "set", dict := none, data := .set #[] 0 (.fresh 0 0 b) }
section
variable {prog : Program} {w : World} {A : Around} {E : Value → Shared → Prop} {s : Shared}
end
section
variable {X : Cx}
def tLenTexts (K : PySem.W.Frag) (ta : TE) : TE := fun σ H Q => ta σ H fun x H1 => ∃ (l : Addr) (xs : List Str), x = .ref l ∧ (SqL K H1 l (xs.map V.str) ∨ SqT K H1 l (xs.map V.str)) ∧ xs.length ≤ 4000 ∧ Q (.int ((uniq xs).length : Nat)) H1
def seqU (r : R) (e : En) (S : Sto) : Option (List D) := match r with
  | .d (.tup ds) => some ds
  | r => lstOf r e S
def gLenSet (r : R) : M R := fun e S => (seqU r e S).bind fun ds => (strsOf ds).bind fun xs => if xs.length ≤ 4000 then some (.d (.int ((uniq xs).length : Nat)), e, S) else none
end
end G

set_option Elab.async false
set_option linter.all false
set_option maxRecDepth 100000
set_option maxHeartbeats 4000000
/-! GR: repr, str of data of any depth. -/
namespace G
variable [Wld]
open PySem PySem.Spec PyProof.Rows L2
open PySem.P
theorem showableAll_iff : ∀ {ps : List PyData}, PyData.showableAll ps = true ↔ ∀ q ∈ ps, q.showable = true
  | [] => by simp [PyData.showableAll]
  | p :: ps => by simp [PyData.showableAll, showableAll_iff (ps := ps)]
theorem shownAll_mem : ∀ {ps : List PyData} {t : Str}, t ∈ PyData.shownAll ps → ∃ q ∈ ps, t = q.shown
  | [], _, h => by simp only [PyData.shownAll] at h; cases h
  | p :: ps, t, h => by
    simp only [PyData.shownAll, List.mem_cons] at h
    rcases h with rfl | h
    · exact ⟨p, by simp, rfl⟩
    · obtain ⟨q, hq, e⟩ := shownAll_mem h
      exact ⟨q, by simp [hq], e⟩
def keyP : Key → PyData
  | .inl i => .int i
  | .inr x => .str x
mutual
def pyr : D → Option PyData
  | .non => some .none
  | .bl b => some (.bool b)
  | .int i => some (.int i)
  | .str x => some (.str x)
  | .tup ds => (pyrs ds).map .tuple
  | .lst ds => (pyrs ds).map .list
  | .dic ks ds => (pyrs ds).map fun ps => .dict ((ks.map keyP).zip ps)
  | .ref _ => none
  | .fn _ => none
  | .exc _ _ _ => none
def pyrs : List D → Option (List PyData)
  | [] => some []
  | d :: ds => match pyr d, pyrs ds with
    | some p, some ps => some (p :: ps)
    | _, _ => none
end
theorem pyrs_cons {d : D} {ds : List D} {qs : List PyData} (h : pyrs (d :: ds) = some qs) : ∃ p ps, pyr d = some p ∧ pyrs ds = some ps ∧ qs = p :: ps := by
  unfold pyrs at h
  split at h
  · cases h; exact ⟨_, _, by assumption, by assumption, rfl⟩
  · cases h
theorem pyrs_len : ∀ {ds : List D} {ps : List PyData}, pyrs ds = some ps → ps.length = ds.length
  | [], _, h => by cases h; rfl
  | d :: ds, _, h => by
    obtain ⟨p, ps, h1, h2, rfl⟩ := pyrs_cons h
    simp [pyrs_len h2]
section
variable {K : PySem.W.Frag} {H : Hp} {ι : List Addr} {X : Cx} {pins : List (Addr × PySem.Obj)} {σ : SV} {s : Shared}
/-- what can be shown -/
structure Rep (h : Heap) (u : Value) (p : PyData) : Prop where
  ex : ∃ as bs, Reads h u p as ∧ ReadAtMost h p.depth bs ∧ ∀ prog w, ReprK prog w bs h p.depth u p.shown
  sh : ∀ a, u = .ref a → p.shown.length ≤ sizeLine → ∀ prog w, ∃ T idr, ShowsBy prog w h a p T idr
structure Reps (h : Heap) (us : List Value) (ps : List PyData) : Prop where
  ex : ∃ as bs, ReadsAll h us ps as ∧ ReadAtMost h (PyData.depthAll ps) bs ∧ ∀ prog w, ReprAllK prog w bs h (PyData.depthAll ps) us (PyData.shownAll ps)
theorem Reps.nil {h : Heap} : Reps h [] [] := ⟨⟨[], [], .nil, fun _ z => (nomatch z), fun _ _ => by simp only [PyData.shownAll]; exact .nil⟩⟩
theorem Reps.cons {h : Heap} {u : Value} {us : List Value} {p : PyData} {ps : List PyData} (a : Rep h u p) (b : Reps h us ps) : Reps h (u :: us) (p :: ps) := by
  obtain ⟨⟨as, bs, r1, m1, k1⟩, _⟩ := a
  obtain ⟨as', bs', r2, m2, k2⟩ := b
  refine ⟨⟨as ++ as', bs ++ bs', .cons r1 r2, ?_, fun prog w => ?_⟩⟩
  · simp only [PyData.depthAll]
    exact (m1.mono (Nat.le_max_left _ _)).append (m2.mono (Nat.le_max_right _ _))
  · simp only [PyData.depthAll, PyData.shownAll]
    exact .cons (((k1 prog w).more fun b z => List.mem_append_left _ z).level_le (Nat.le_max_left _ _)) ((k2 prog w).more_le (fun b z => List.mem_append_right _ z) (Nat.le_max_right _ _))
theorem Rep.nil_of {h : Heap} {u : Value} {p : PyData} {as : List Addr} (r : Reads h u p as) (k : ∀ prog w, ReprIs prog w u p.shown) (hn : ∀ a, u ≠ .ref a := by intro a z; cases z) : Rep h u p := ⟨⟨as, [], r, fun _ z => (nomatch z), fun prog w => .of_is (k prog w) _ _ _⟩, fun a e => (hn a e).elim⟩
theorem Rep.tup {h : Heap} {a : Addr} {us : List Value} {ps : List PyData} (t : IsTup h a us.toArray) (b : Reps h us ps) : Rep h (.ref a) (.tuple ps) := by
  obtain ⟨o, e, c, n, d⟩ := t
  obtain ⟨as, bs, r, m, k⟩ := b
  have rr : Reads h (.ref a) (.tuple ps) as := .tuple e c d r
  have hd : PyData.depthAll ps < (PyData.tuple ps).depth := by simp only [PyData.depth]; omega
  have hn := not_mem_of_deeper rr hd m
  refine ⟨⟨as, a :: bs, rr, ReadAtMost.cons rr (by omega) m, fun prog w => ?_⟩, fun a' ea hz prog w => ⟨"tuple", "tuple.__repr__", F.slot_tuple_repr, F.slot_tuple_str, F.slot_tuple_format, ?_, ?_⟩⟩
  · simp only [PyData.depth, PyData.shown]
    exact ReprK.tuple e c d hn (k prog w)
  · cases ea
    exact fun s hk0 => ⟨o, hk0 _ _ e, c⟩
  · cases ea
    intro A E s Q hg hu hk0 hQ
    simp only [PyData.depth] at hu
    simp only [PyData.shown] at hQ hz
    exact call_tuple_reprK e c d hn (k prog w) hg (fun b _ => Clear.nil b) hu hk0 hQ hz
theorem Rep.lst {h : Heap} {a : Addr} {us : List Value} {ps : List PyData} (t : h.IsList a us.toArray) (b : Reps h us ps) : Rep h (.ref a) (.list ps) := by
  obtain ⟨o, e, c, n, d⟩ := t
  obtain ⟨as, bs, r, m, k⟩ := b
  have rr : Reads h (.ref a) (.list ps) (a :: as) := .list e c d r
  have hd : PyData.depthAll ps < (PyData.list ps).depth := by simp only [PyData.depth]; omega
  have hn := not_mem_of_deeper rr hd m
  refine ⟨⟨a :: as, a :: bs, rr, ReadAtMost.cons rr (by omega) m, fun prog w => ?_⟩, fun a' ea hz prog w => ⟨"list", "list.__repr__", F.slot_list_repr.toG, F.slot_list_str, F.slot_list_format, ?_, ?_⟩⟩
  · simp only [PyData.depth, PyData.shown]
    cases us with
    | nil =>
      cases r
      simp only [PyData.shownAll, listText_nil]
      exact ReprK.listEmpty e c d
    | cons x l =>
      have kk := k prog w
      exact ReprK.list e c d hn (by simpa using kk.length_eq) fun i y z => kk.item i y (by simpa using z)
  · cases ea
    exact fun s hk0 => ⟨o, hk0 _ _ e, c⟩
  · cases ea
    intro A E s Q hg hu hk0 hQ
    simp only [PyData.depth] at hu
    simp only [PyData.shown] at hQ hz
    cases us with
    | nil =>
      cases r
      simp only [PyData.shownAll, listText_nil] at hQ
      exact call_list_repr_empty ⟨o, hk0 _ _ e, c⟩ (hk0 _ _ e) d (hQ s.heap _ _ fun _ _ e => e)
    | cons x l =>
      have kk := k prog w
      exact call_list_reprK e c d hn (by simpa using kk.length_eq) (fun i y z => kk.item i y (by simpa using z)) hg (fun b _ => Clear.nil b) hu hk0 hQ hz
theorem ReprEntriesK.both {prog : Program} {w : World} {as : List Addr} {h : Heap} {d : Nat} : ∀ (es : List DictEntry) (ks vs : List PyData), ks.length = vs.length → ReprAllK prog w as h d (es.map (·.key)) (PyData.shownAll ks) → ReprAllK prog w as h d (es.map (·.val)) (PyData.shownAll vs) → ReprEntriesK prog w as h d es (PyData.shownKv (ks.zip vs))
  | [], [], [], _, _, _ => by simp only [List.zip_nil_left, PyData.shownKv]; exact .nil
  | e :: es, k :: ks, v :: vs, hl, h1, h2 => by
    simp only [List.map_cons, PyData.shownAll] at h1 h2
    cases h1 with | cons a1 b1 =>
    cases h2 with | cons a2 b2 =>
    simp only [List.zip_cons_cons, PyData.shownKv]
    exact .cons a1 a2 (ReprEntriesK.both es ks vs (by simpa using hl) b1 b2)
  | [], k :: ks, _, _, h1, _ => by simp only [List.map_nil, PyData.shownAll] at h1; cases h1
  | e :: es, [], _, _, h1, _ => by simp only [List.map_cons, PyData.shownAll] at h1; cases h1
theorem depthAll_zip : ∀ (ks vs : List PyData), ks.length = vs.length → PyData.depthAll ks ≤ PyData.depthKv (ks.zip vs) ∧ PyData.depthAll vs ≤ PyData.depthKv (ks.zip vs)
  | [], [], _ => by simp [PyData.depthAll, PyData.depthKv]
  | k :: ks, v :: vs, h => by
    obtain ⟨a, b⟩ := depthAll_zip ks vs (by simpa using h)
    simp only [List.zip_cons_cons, PyData.depthAll, PyData.depthKv]
    omega
theorem Rep.dic {h : Heap} {a : Addr} {o : PySem.Obj} {es : Array DictEntry} {n : Nat} {ks vs : List PyData} (hs : (a == sysModules) = false) (e : h.get? a = some o) (c : o.cls = .type "dict") (d : o.data = .dict es n) (hl : ks.length = vs.length)
    (b1 : Reps h (es.toList.map (·.key)) ks) (b2 : Reps h (es.toList.map (·.val)) vs) : Rep h (.ref a) (.dict (ks.zip vs)) := by
  obtain ⟨as, bs, r, m, k⟩ := b1
  obtain ⟨as', bs', r', m', k'⟩ := b2
  obtain ⟨d1, d2⟩ := depthAll_zip ks vs hl
  have rr : Reads h (.ref a) (.dict (ks.zip vs)) (a :: as ++ as') := .dict e c d (by rw [List.map_fst_zip (by omega)]; exact r) (by rw [List.map_snd_zip (by omega)]; exact r')
  have hd : PyData.depthKv (ks.zip vs) < (PyData.dict (ks.zip vs)).depth := by simp only [PyData.depth]; omega
  have mm := (m.mono d1).append (m'.mono d2)
  have hn := not_mem_of_deeper rr hd mm
  have ke := fun prog w => ReprEntriesK.both es.toList ks vs hl ((k prog w).more_le (fun b z => List.mem_append_left _ z) d1) ((k' prog w).more_le (fun b z => List.mem_append_right _ z) d2)
  refine ⟨⟨_, a :: (bs ++ bs'), rr, ReadAtMost.cons rr (by omega) mm, fun prog w => ?_⟩, fun a' ea hz prog w => ⟨"dict", "dict.__repr__", F.slot_dict_repr, F.slot_dict_str, F.slot_dict_format, ?_, ?_⟩⟩
  · simp only [PyData.depth, PyData.shown]
    exact ReprK.dict e c d hs hn (ke prog w)
  · cases ea
    exact fun s hk0 => ⟨o, hk0 _ _ e, c⟩
  · cases ea
    intro A E s Q hg hu hk0 hQ
    simp only [PyData.depth] at hu
    simp only [PyData.shown] at hQ hz
    exact call_dict_reprK e c d hs hn (ke prog w) hg (fun b _ => Clear.nil b) hu hk0 hQ hz
/-- small enough to be shown -/
def fitsP (p : PyData) : Prop := p.showable = true ∧ p.shown.length ≤ sizeLine
theorem keys_rep {h : Heap} {P : Program} {w : World} : ∀ {es : List DictEntry} {kvs : List (Key × Value)}, PySem.Pairs (mixKind P w) es kvs → (∀ k ∈ kvs.map (·.1), fitsP (keyP k)) → Reps h (es.map (·.key)) (kvs.map fun kv => keyP kv.1)
  | _, _, .nil, _ => .nil
  | _, _, .cons (e := e) (kv := kv) h1 _ h3, w => by
    refine .cons ?_ (keys_rep h3 fun k hk => w k (by simp only [List.map_cons, List.mem_cons]; exact .inr hk))
    have hw := w kv.1 (by simp)
    obtain ⟨k, v⟩ := kv
    rcases keyIs_shape (show keyIs k e.key = true from h1) with ⟨i, t, e1, e2⟩ | ⟨x, t, e1, e2⟩
    · subst e1
      show Rep h e.key (keyP (.inl i))
      rw [e2]
      exact Rep.nil_of (.int i t) fun _ _ => by simp only [keyP, PyData.shown]; exact ReprIs.int t (by simpa [fitsP, keyP, PyData.showable] using hw.1)
    · subst e1
      show Rep h e.key (keyP (.inr x))
      rw [e2]
      exact Rep.nil_of (.str x t) fun _ _ => by simp only [keyP, PyData.shown]; exact ReprIs.str x t (by simpa [fitsP, keyP, PyData.shown] using hw.2)
theorem vals_pairs {P : Program} {w : World} : ∀ {es : List DictEntry} {kvs : List (Key × Value)}, PySem.Pairs (mixKind P w) es kvs → es.map (·.val) = kvs.map (·.2)
  | _, _, .nil => rfl
  | _, _, .cons h1 h2 h3 => by rw [List.map_cons, List.map_cons, vals_pairs h3, h2]
mutual
theorem RD.rep (I : Inv X pins σ H s) : ∀ (d : D) (v : V) (u : Value) (p : PyData), RD X.K H ι v d → RelV v u → pyr d = some p → fitsP p → Rep s.heap u p
  | .non, _, _, _, h, r, e, _ => by cases h; cases r; cases e; exact .nil_of .none fun _ _ => by simp only [PyData.shown]; exact ReprIs.none
  | .bl b, _, _, _, h, r, e, _ => by cases h; cases r; cases e; exact .nil_of (.bool b) fun _ _ => by simp only [PyData.shown]; exact ReprIs.bool b
  | .int i, _, _, _, h, r, e, f => by cases h; obtain ⟨t, rfl⟩ := r; cases e; exact .nil_of (.int i t) fun _ _ => by simp only [PyData.shown]; exact ReprIs.int t (by simpa [fitsP, PyData.showable] using f.1)
  | .str x, _, _, _, h, r, e, f => by cases h; obtain ⟨t, rfl⟩ := r; cases e; exact .nil_of (.str x t) fun _ _ => by simp only [PyData.shown]; exact ReprIs.str x t (by simpa [fitsP, PyData.shown] using f.2)
  | .tup ds, _, _, _, h, r, e, f => by
    obtain ⟨ps, e1, e2⟩ := Option.map_eq_some_iff.mp (show (pyrs ds).map PyData.tuple = some _ from e)
    subst e2
    cases h with | tup h1 h2 =>
    cases r
    obtain ⟨its, rv, t, _⟩ := I.tuple h1
    exact .tup t (RDs.rep I ds _ _ _ h2 rv e1 (by simpa [fitsP, PyData.showable] using f.1) fun x hx => Nat.le_trans (tupleText_mem_le hx) (by simpa [fitsP, PyData.shown] using f.2))
  | .lst ds, _, _, _, h, r, e, f => by
    obtain ⟨ps, e1, e2⟩ := Option.map_eq_some_iff.mp (show (pyrs ds).map PyData.list = some _ from e)
    subst e2
    cases h with | lst h1 h2 =>
    cases r
    obtain ⟨its, rv, t, _⟩ := I.list h1.sq
    exact .lst t.isList (RDs.rep I ds _ _ _ h2 rv e1 (by simpa [fitsP, PyData.showable] using f.1) fun x hx => Nat.le_trans (listText_mem_le hx) (by simpa [fitsP, PyData.shown] using f.2))
  | .dic ks ds, _, _, _, h, r, e, f => by
    obtain ⟨ps, e1, e2⟩ := Option.map_eq_some_iff.mp (show (pyrs ds).map (fun ps => PyData.dict ((ks.map keyP).zip ps)) = some _ from e)
    subst e2
    cases h with | dic h1 hl h2 =>
    cases r
    rename_i a o xs
    obtain ⟨_, hs, vs, rv, ob, es, ep, eo, hx, hd, _, hp, hnd⟩ := dk_rd I.hok (.inr ⟨o, h1⟩)
    have lx := h2.length
    have lp := pyrs_len e1
    have hks : vs.map (·.1) = ks := by
      have : (ks.zip xs).map (·.1) = vs.map (·.1) := by
        clear e f hp hnd
        generalize ks.zip xs = zs at rv
        induction rv with
        | nil => rfl
        | cons q _ ih => rw [List.map_cons, List.map_cons, ih, q.1]
      rw [← this, List.map_fst_zip (by omega)]
    have hvs : Vals xs (vs.map (·.2)) := by
      have : Vals ((ks.zip xs).map (·.2)) (vs.map (·.2)) := by
        clear e f hp hks hnd
        generalize ks.zip xs = zs at rv
        induction rv with
        | nil => exact .nil
        | cons q _ ih => exact .cons q.2 ih
      rwa [List.map_snd_zip (by omega)] at this
    have hfk : ∀ kv ∈ (ks.map keyP).zip ps, fitsP kv.1 ∧ kv.2.showable = true ∧ kv.2.shown.length ≤ sizeLine := by
      have f1 : PyData.showableKv ((ks.map keyP).zip ps) = true := by simpa [fitsP, PyData.showable] using f.1
      have f2 : ∀ x ∈ PyData.shownKv ((ks.map keyP).zip ps), x.length ≤ sizeLine := fun x hx => Nat.le_trans (dictText_mem_le hx) (by simpa [fitsP, PyData.shown] using f.2)
      clear e f hp
      generalize (ks.map keyP).zip ps = zs at f1 f2
      induction zs with
      | nil => intro kv hkv; cases hkv
      | cons z zs ih =>
        obtain ⟨k, v⟩ := z
        simp only [PyData.showableKv, Bool.and_eq_true] at f1
        simp only [PyData.shownKv] at f2
        have l0 := f2 _ (List.mem_cons_self ..)
        rw [strLen_append, strLen_append] at l0
        intro kv hkv
        rcases List.mem_cons.mp hkv with rfl | hkv
        · exact ⟨⟨f1.1.1, by show k.shown.length ≤ _; omega⟩, f1.1.2, by show v.shown.length ≤ _; omega⟩
        · exact ih f1.2 (fun x hx => f2 x (List.mem_cons_of_mem _ hx)) kv hkv
    have b1 : Reps s.heap (es.toList.map (·.key)) (ks.map keyP) := by
      have := keys_rep (h := s.heap) hp fun k hk => by
        rw [hks] at hk
        have : keyP k ∈ ((ks.map keyP).zip ps).map (·.1) := by rw [List.map_fst_zip (by simp; omega)]; exact List.mem_map_of_mem hk
        obtain ⟨q, hq, e⟩ := List.mem_map.mp this
        rw [← e]; exact (hfk q hq).1
      rw [← hks, List.map_map]
      exact this
    have b2 : Reps s.heap (es.toList.map (·.val)) ps := by
      rw [vals_pairs hp]
      refine RDs.rep I ds xs _ ps h2 hvs e1 ?_ ?_
      · rw [showableAll_iff]
        intro q hq
        have : q ∈ ((ks.map keyP).zip ps).map (·.2) := by rw [List.map_snd_zip (by simp; omega)]; exact hq
        obtain ⟨z, hz, e⟩ := List.mem_map.mp this
        rw [← e]; exact (hfk z hz).2.1
      · intro t ht
        obtain ⟨q, hq, e⟩ := shownAll_mem ht
        have : q ∈ ((ks.map keyP).zip ps).map (·.2) := by rw [List.map_snd_zip (by simp; omega)]; exact hq
        obtain ⟨z, hz, e'⟩ := List.mem_map.mp this
        rw [e, ← e']; exact (hfk z hz).2.2
    exact .dic hs eo hx.1 hd (by simp; omega) b1 b2
  | .ref _, _, _, _, _, _, e, _ => by cases e
  | .fn _, _, _, _, _, _, e, _ => by cases e
theorem RDs.rep (I : Inv X pins σ H s) : ∀ (ds : List D) (vs : List V) (us : List Value) (ps : List PyData), RDs X.K H ι vs ds → Vals vs us → pyrs ds = some ps → PyData.showableAll ps = true → (∀ t ∈ PyData.shownAll ps, t.length ≤ sizeLine) → Reps s.heap us ps
  | [], _, _, _, h, r, e, _, _ => by cases h; cases r; cases e; exact .nil
  | d :: ds, _, _, _, h, r, e, f, g => by
    obtain ⟨p, ps, e1, e2, rfl⟩ := pyrs_cons e
    cases h with | cons h1 h2 =>
    cases r with | cons r1 r2 =>
    simp only [PyData.showableAll, Bool.and_eq_true] at f
    simp only [PyData.shownAll] at g
    exact .cons (RD.rep I d _ _ p h1 r1 e1 ⟨f.1, g _ (List.mem_cons_self ..)⟩) (RDs.rep I ds _ _ ps h2 r2 e2 f.2 fun t ht => g t (List.mem_cons_of_mem _ ht))
end
end
section
variable {X : Cx}
theorem RDw.rep {H : Hp} {ι : List Addr} {pins : List (Addr × PySem.Obj)} {σ : SV} {s : Shared} (I : Inv X pins σ H s) {v : V} {u : Value} {d : D} {p : PyData} (h : RDw X.K H ι v d) (r : RelV v u) (e : pyr d = some p) (f : fitsP p) : Rep s.heap u p := by
  rcases h with h | ⟨a, xs, ds, rfl, rfl, h1, h2⟩
  · exact RD.rep I d v u p h r e f
  · obtain ⟨ps, e1, e2⟩ := Option.map_eq_some_iff.mp (show (pyrs ds).map PyData.list = some _ from e)
    subst e2
    cases r
    obtain ⟨its, rv, t, _⟩ := I.list h1
    exact .lst t.isList (RDs.rep I ds _ _ _ h2 rv e1 (by simpa [fitsP, PyData.showable] using f.1) fun x hx => Nat.le_trans (listText_mem_le hx) (by simpa [fitsP, PyData.shown] using f.2))
section
variable {prog : Program} {w : World} {A : Around} {E : Value → Shared → Prop} {s : Shared} {Q : Value → Shared → Prop} {u : Value} {p : PyData}
theorem repr_of (h : Rep s.heap u p) (f : fitsP p) (hg : A.guards = some []) (hu : A.units + (p.depth + 1) < cLine)
    (hQ : ∀ h' t tk, (∀ b o, s.heap.get? b = some o → h'.get? b = some o) → Q (.str p.shown t) { s with heap := h', toks := tk }) : wpAny (model prog w) A (call (.builtin "repr") [u]) Q E s := by
  obtain ⟨⟨as, bs, r, _, _⟩, sh⟩ := h
  have st : ∀ t tk, Q (.str p.shown t) { s with toks := tk } := fun t tk => hQ s.heap t tk fun _ _ e => e
  cases r with
  | none => simp only [PyData.shown] at st; exact repr_of_none (st _ _)
  | bool b => simp only [PyData.shown] at st; exact repr_of_bool (st _ _)
  | int i t => simp only [PyData.shown] at st; exact repr_of_int (by simpa [fitsP, PyData.showable] using f.1) (st _ _)
  | str x t => simp only [PyData.shown] at st; exact repr_of_str (st _ _) (by simpa [fitsP, PyData.shown] using f.2)
  | list h1 h2 h3 h4 => 
    obtain ⟨T, idr, S⟩ := sh _ rfl f.2 prog w
    exact call_repr_slot (by omega) (S.typeIs s fun _ _ e => e) S.slotRepr (S.call A.in1 E s _ hg (by show A.units + 1 + _ < cLine; omega) (fun _ _ e => e) fun h' t tk hk => ⟨_, _, rfl, hQ h' t tk hk⟩)
  | tuple h1 h2 h3 h4 => 
    obtain ⟨T, idr, S⟩ := sh _ rfl f.2 prog w
    exact call_repr_slot (by omega) (S.typeIs s fun _ _ e => e) S.slotRepr (S.call A.in1 E s _ hg (by show A.units + 1 + _ < cLine; omega) (fun _ _ e => e) fun h' t tk hk => ⟨_, _, rfl, hQ h' t tk hk⟩)
  | dict h1 h2 h3 h4 h5 => 
    obtain ⟨T, idr, S⟩ := sh _ rfl f.2 prog w
    exact call_repr_slot (by omega) (S.typeIs s fun _ _ e => e) S.slotRepr (S.call A.in1 E s _ hg (by show A.units + 1 + _ < cLine; omega) (fun _ _ e => e) fun h' t tk hk => ⟨_, _, rfl, hQ h' t tk hk⟩)
end
/-- repr(e), str(e): of a text str tells itself -/
def shownD (x : D) : Option Str := match pyr x with
  | some p => if p.showable && decide (p.shown.length ≤ sizeLine) && decide (p.depth ≤ 60) then some p.shown else none
  | none => none
def gRepr (r : R) : M R := fun e S => (dat r e S).bind fun x => (shownD x).map fun t => (.d (.str t), e, S)
def gStr (r : R) : M R := fun e S => match r with
  | .d (.str x) => some (.d (.str x), e, S)
  | r => (dat r e S).bind fun x => (shownD x).map fun t => (.d (.str t), e, S)
theorem shownD_eq {x : D} {t : Str} (h : shownD x = some t) : ∃ p, pyr x = some p ∧ fitsP p ∧ p.depth ≤ 60 ∧ t = p.shown := by
  unfold shownD at h
  split at h
  · split at h
    · cases h
      rename_i p h1 h2
      simp only [Bool.and_eq_true, decide_eq_true_eq] at h2
      exact ⟨p, h1, ⟨h2.1.1, h2.1.2⟩, h2.2, rfl⟩
    · cases h
  · cases h
theorem cg_repr (hg : X.A.guards = some []) (hu : X.A.units + 64 < cLine) : CallR X (.builtin "repr") (tOA X.K (g1 gRepr)) := fun pins s σ H xs us Q I rx q => by
  obtain ⟨ι, σ', e, S, rs, r, e', S', R, hr, hm, q⟩ := q
  unfold g1 at hm
  split at hm
  · cases hr with | cons h1 h2 =>
    cases h2
    cases rx with | cons k1 k2 =>
    cases k2
    obtain ⟨x, hx, hm⟩ := Option.bind_eq_some_iff.mp hm
    obtain ⟨t, ht, hz⟩ := Option.map_eq_some_iff.mp hm
    cases hz
    obtain ⟨p, hp, f, hd, rfl⟩ := shownD_eq ht
    have rep := RDw.rep I (R.datW h1 hx) k1 hp f
    exact repr_of rep f hg (by omega) fun h' t tk hk => ⟨.str p.shown, H, I.kept hk, ⟨t, rfl⟩, q _ H ι R .refl (.str _) trivial⟩
  · cases hm
end
end G

set_option Elab.async false
set_option linter.all false
set_option maxRecDepth 1000000
set_option maxHeartbeats 4000000
/-! GS: further methods. -/
namespace G
variable [Wld]
open PySem PySem.Spec PyProof.Rows L2
section
variable {X : Cx}
def gUpper (r : R) (rs : List R) : M R := fun e S => match r, rs with
  | .d (.str x), [] => if x.length ≤ 1000000 then some (.d (.str (Txt.upper x)), e, S) else none
  | _, _ => none
end
end G

set_option Elab.async false
set_option linter.all false
set_option maxRecDepth 1000000
set_option maxHeartbeats 2000000
/-! G13: what a mirror comes to: a small calculus. -/
namespace G
variable [Wld]
open PySem PySem.Spec PyProof.Rows L2
/-- m comes to something of Q -/
def Wp {α : Type} (m : M α) (e : En) (S : Sto) (Q : α → En → Sto → Prop) : Prop := ∃ a e' S', m e S = some (a, e', S') ∧ Q a e' S'
def Fp (f : Fn) (sls : List Sl) (S : Sto) (Q : Rt → Sto → Prop) : Prop := ∃ r S', f sls S = some (r, S') ∧ Q r S'
theorem Wp.mono {α : Type} {m : M α} {e : En} {S : Sto} {Q Q' : α → En → Sto → Prop} (h : Wp m e S Q) (w : ∀ a e S, Q a e S → Q' a e S) : Wp m e S Q' := let ⟨a, e', S', h1, h2⟩ := h; ⟨a, e', S', h1, w _ _ _ h2⟩
theorem Fp.mono {f : Fn} {sls : List Sl} {S : Sto} {Q Q' : Rt → Sto → Prop} (h : Fp f sls S Q) (w : ∀ a S, Q a S → Q' a S) : Fp f sls S Q' := let ⟨a, S', h1, h2⟩ := h; ⟨a, S', h1, w _ _ h2⟩
section
variable {α β : Type} {e : En} {S : Sto}
@[simp] theorem wp_bnd {m : M α} {f : α → M β} {Q : β → En → Sto → Prop} : Wp (bnd m f) e S Q ↔ Wp m e S fun a e1 S1 => Wp (f a) e1 S1 Q := by
  unfold Wp bnd
  constructor
  · rintro ⟨b, e2, S2, h, q⟩
    split at h
    · exact ⟨_, _, _, by assumption, _, _, _, h, q⟩
    · cases h
  · rintro ⟨a, e1, S1, h1, b, e2, S2, h2, q⟩
    exact ⟨b, e2, S2, by rw [h1]; exact h2, q⟩
@[simp] theorem wp_pur {a : α} {Q : α → En → Sto → Prop} : Wp (pur a) e S Q ↔ Q a e S := ⟨fun ⟨_, _, _, h, q⟩ => by cases h; exact q, fun q => ⟨_, _, _, rfl, q⟩⟩
@[simp] theorem wp_stk {Q : α → En → Sto → Prop} : Wp (stk : M α) e S Q ↔ False := ⟨fun h => let ⟨_, _, _, h, q⟩ := h; (nomatch h), fun q => q.elim⟩
theorem wp_some {m : M α} {Q : α → En → Sto → Prop} {a : α} {e' : En} {S' : Sto} (h : m e S = some (a, e', S')) : Wp m e S Q ↔ Q a e' S' := ⟨fun ⟨_, _, _, h', q⟩ => by rw [h] at h'; cases h'; exact q, fun q => ⟨_, _, _, h, q⟩⟩
theorem wp_ite {c : Prop} [Decidable c] {a b : M α} {Q : α → En → Sto → Prop} : Wp (if c then a else b) e S Q ↔ if c then Wp a e S Q else Wp b e S Q := by split <;> rfl
@[simp] theorem wp_mC {x : D} {Q : R → En → Sto → Prop} : Wp (mC x) e S Q ↔ Q (.d x) e S := wp_pur
variable {Q : R → En → Sto → Prop} {ma mb mc : M R} {g g' : R → R → M R}
@[simp] theorem wp_mBin : Wp (mBin g ma mb) e S Q ↔ Wp ma e S fun x e1 S1 => Wp mb e1 S1 fun y e2 S2 => Wp (g x y) e2 S2 Q := by simp [mBin]
@[simp] theorem wp_mUn {f : R → M R} : Wp (mUn f ma) e S Q ↔ Wp ma e S fun x e1 S1 => Wp (f x) e1 S1 Q := by simp [mUn]
theorem wp_var_d {i : Nat} {x : D} (h : e[i]? = some (some (.d x))) : Wp (mVar i) e S Q ↔ Q (.d x) e S := wp_some (by unfold mVar; rw [h])
theorem wp_mVar {i : Nat} : Wp (mVar i) e S Q ↔ match e[i]? with
    | some (some (.d x)) => Q (.d x) e S
    | some (some (.own _)) => Q (.loc i) e S
    | some (some (.brw o)) => Q (.brw o) e S
    | some (some (.lm i cs)) => Q (.lm i cs) e S
    | _ => False := by
  have hr : ∀ (r : R), mVar i e S = some (r, e, S) → (Wp (mVar i) e S Q ↔ Q r e S) := fun r h => wp_some h
  have hn : mVar i e S = none → (Wp (mVar i) e S Q ↔ False) := fun h => ⟨fun q => (let ⟨_, _, _, h', _⟩ := q; nomatch (h.symm.trans h')), fun h => h.elim⟩
  rcases h : e[i]? with _ | _ | x | x | x | ⟨i, cs⟩
  · exact hn (by simp [mVar, h])
  · exact hn (by simp [mVar, h])
  · exact hr _ (by simp [mVar, h])
  · exact hr _ (by simp [mVar, h])
  · exact hr _ (by simp [mVar, h])
  · exact hr _ (by simp [mVar, h])
@[simp] theorem wp_gP {f : D → D → Option D} {x y : D} : Wp (gP f (.d x) (.d y)) e S Q ↔ ∃ d, f x y = some d ∧ Q (.d d) e S := by
  unfold Wp gP
  simp only [Option.map_eq_some_iff]
  constructor
  · rintro ⟨a, e', S', ⟨d, hd, h⟩, q⟩; cases h; exact ⟨d, hd, q⟩
  · rintro ⟨d, hd, q⟩; exact ⟨_, _, _, ⟨d, hd, rfl⟩, q⟩
@[simp] theorem wp_mIf {β : Type} {c : M Bool} {a b : M β} {Q : β → En → Sto → Prop} : Wp (mIf c a b) e S Q ↔ Wp c e S fun x e1 S1 => if x = true then Wp a e1 S1 Q else Wp b e1 S1 Q := by simp [mIf, wp_ite]
@[simp] theorem wp_mNot {c : M Bool} {Q : Bool → En → Sto → Prop} : Wp (mNot c) e S Q ↔ Wp c e S fun x e1 S1 => Q (!x) e1 S1 := by simp [mNot]
@[simp] theorem wp_mAnd {c d : M Bool} {Q : Bool → En → Sto → Prop} : Wp (mAnd c d) e S Q ↔ Wp c e S fun x e1 S1 => if x = true then Wp d e1 S1 Q else Q false e1 S1 := by simp [mAnd, wp_ite]
@[simp] theorem wp_mOr {c d : M Bool} {Q : Bool → En → Sto → Prop} : Wp (mOr c d) e S Q ↔ Wp c e S fun x e1 S1 => if x = true then Q true e1 S1 else Wp d e1 S1 Q := by simp [mOr, wp_ite]
@[simp] theorem wp_asB {r : R} {Q : Bool → En → Sto → Prop} : Wp (asB r) e S Q ↔ ∃ b, r = .d (.bl b) ∧ Q b e S := by
  unfold asB
  split
  · simp
  · rename_i h
    simp only [wp_stk, false_iff]
    rintro ⟨b, rfl, _⟩
    exact h b rfl
@[simp] theorem wp_mAndV : Wp (mAndV ma mb) e S Q ↔ Wp ma e S fun r e1 S1 => ∃ b, r = .d (.bl b) ∧ if b = true then Wp mb e1 S1 Q else Q (.d (.bl false)) e1 S1 := by simp [mAndV, wp_ite]
@[simp] theorem wp_mOrV : Wp (mOrV ma mb) e S Q ↔ Wp ma e S fun r e1 S1 => ∃ b, r = .d (.bl b) ∧ if b = true then Q (.d (.bl true)) e1 S1 else Wp mb e1 S1 Q := by simp [mOrV, wp_ite]
@[simp] theorem wp_mNotV : Wp (mNotV ma) e S Q ↔ Wp ma e S fun r e1 S1 => ∃ b, r = .d (.bl b) ∧ Q (.d (.bl (!b))) e1 S1 := by simp [mNotV]
@[simp] theorem wp_gIsN {neg : Bool} {x : D} : Wp (gIsN neg (.d x) (.d .non)) e S Q ↔ Q (.d (.bl (isNon x != neg))) e S := wp_some rfl
/-! lists of results -/
variable {ms : M (List R)}
@[simp] theorem wp_mNil {Q : List R → En → Sto → Prop} : Wp mNil e S Q ↔ Q [] e S := wp_pur
@[simp] theorem wp_mCons {Q : List R → En → Sto → Prop} : Wp (mCons ma ms) e S Q ↔ Wp ma e S fun x e1 S1 => Wp ms e1 S1 fun xs e2 S2 => Q (x :: xs) e2 S2 := by simp [mCons]
theorem wp_dispOf {f : List D → R} {rs : List R} : Wp (dispOf f rs) e S Q ↔ ∃ ds, dsOf rs = some ds ∧ ds.length ≤ 1000 ∧ Q (f ds) e S := by
  constructor
  · rintro ⟨a, e', S', h, q⟩
    obtain ⟨ds, h1, h2, h3⟩ := dispOf_eq h
    cases h3
    exact ⟨ds, h1, h2, q⟩
  · rintro ⟨ds, h1, h2, q⟩
    exact ⟨f ds, e, S, by unfold dispOf; rw [h1]; simp [h2], q⟩
@[simp] theorem wp_mTup : Wp (mTup ms) e S Q ↔ Wp ms e S fun rs e1 S1 => ∃ ds, dsOf rs = some ds ∧ ds.length ≤ 1000 ∧ Q (.d (.tup ds)) e1 S1 := by simp [mTup, wp_dispOf]
@[simp] theorem wp_mLst : Wp (mLst ms) e S Q ↔ Wp ms e S fun rs e1 S1 => ∃ ds, dsOf rs = some ds ∧ ds.length ≤ 1000 ∧ Q (.new (.lst ds)) e1 S1 := by simp [mLst, wp_dispOf]
@[simp] theorem dsOf_nil : dsOf [] = some [] := rfl
@[simp] theorem dsOf_cons {x : D} {rs : List R} : dsOf (.d x :: rs) = (dsOf rs).map (x :: ·) := by
  simp only [dsOf]
  try (cases dsOf rs <;> rfl)
@[simp] theorem wp_mD : Wp (mD ma) e S Q ↔ Wp ma e S fun r e1 S1 => Wp (toD r) e1 S1 Q := by simp [mD]
@[simp] theorem wp_toD_d {x : D} : Wp (toD (.d x)) e S Q ↔ Q (.d x) e S := wp_some rfl
@[simp] theorem wp_toD_new {ds : List D} : Wp (toD (.new (.lst ds))) e S Q ↔ Q (.d (.lst ds)) e S := wp_some rfl
theorem wp_toD_loc {i : Nat} {ds : List D} (h : e[i]? = some (some (.own (.lst ds)))) : Wp (toD (.loc i)) e S Q ↔ Q (.d (.lst ds)) (e.set i (some (.d (.lst ds)))) S := wp_some (by unfold toD; simp [h, lock])
@[simp] theorem wp_mBox : Wp (mBox ma) e S Q ↔ Wp ma e S fun r e1 S1 => Wp (toBox r) e1 S1 Q := by simp [mBox]
@[simp] theorem wp_toBox {o : O} : Wp (toBox (.new o)) e S Q ↔ Q (.d (.ref S.length)) e (S ++ [o]) := wp_some rfl
/-! subscripts -/
@[simp] theorem wp_ix_tup {ds : List D} {i : Int} : Wp (gIx (.d (.tup ds)) (.d (.int i))) e S Q ↔ ∃ d, atD ds i = some d ∧ Q (.d d) e S := by
  unfold Wp gIx
  constructor
  · rintro ⟨a, e', S', h, q⟩; obtain ⟨d, h1, h2⟩ := Option.map_eq_some_iff.mp h; cases h2; exact ⟨d, h1, q⟩
  · rintro ⟨d, h, q⟩; exact ⟨_, _, _, Option.map_eq_some_iff.mpr ⟨d, h, rfl⟩, q⟩
theorem wp_ix_lst {r : R} {ds : List D} {i : Int} (h : look r e S = some (.lst ds)) (h1 : ∀ ds, r ≠ .d (.tup ds)) (h2 : ∀ s, r ≠ .d (.str s)) : Wp (gIx r (.d (.int i))) e S Q ↔ ∃ d, atD ds i = some d ∧ Q (.d d) e S := by
  have hq : gIx r (.d (.int i)) e S = (atD ds i).map fun d => (R.d d, e, S) := by
    cases r with
    | d x => cases x <;> first | exact (h1 _ rfl).elim | exact (h2 _ rfl).elim | (simp only [gIx, h]) | (simp [look] at h)
    | _ => simp only [gIx, h]
  unfold Wp
  rw [hq]
  constructor
  · rintro ⟨a, e', S', h, q⟩; obtain ⟨d, h1, h2⟩ := Option.map_eq_some_iff.mp h; cases h2; exact ⟨d, h1, q⟩
  · rintro ⟨d, h, q⟩; exact ⟨_, _, _, Option.map_eq_some_iff.mpr ⟨d, h, rfl⟩, q⟩
@[simp] theorem wp_ix_new {ds : List D} {i : Int} : Wp (gIx (.new (.lst ds)) (.d (.int i))) e S Q ↔ ∃ d, atD ds i = some d ∧ Q (.d d) e S := wp_ix_lst rfl (fun _ h => nomatch h) (fun _ h => nomatch h)
@[simp] theorem wp_ix_brw {ds : List D} {i : Int} : Wp (gIx (.brw (.lst ds)) (.d (.int i))) e S Q ↔ ∃ d, atD ds i = some d ∧ Q (.d d) e S := wp_ix_lst rfl (fun _ h => nomatch h) (fun _ h => nomatch h)
@[simp] theorem wp_ix_dl {ds : List D} {i : Int} : Wp (gIx (.d (.lst ds)) (.d (.int i))) e S Q ↔ ∃ d, atD ds i = some d ∧ Q (.d d) e S := wp_ix_lst rfl (fun _ h => nomatch h) (fun _ h => nomatch h)
theorem wp_ix_ref {n : Nat} {ds : List D} {i : Int} (h : S[n]? = some (.lst ds)) : Wp (gIx (.d (.ref n)) (.d (.int i))) e S Q ↔ ∃ d, atD ds i = some d ∧ Q (.d d) e S := wp_ix_lst h (fun _ h => nomatch h) (fun _ h => nomatch h)
theorem atD_ofNat {ds : List D} {n : Nat} : atD ds n = ds[n]? := by
  unfold atD atI ixN
  rw [if_pos (Int.natCast_nonneg n)]
  by_cases h : n < ds.length
  · rw [if_pos (Int.ofNat_lt.mpr h)]; rfl
  · rw [if_neg (fun z => h (Int.ofNat_lt.mp z)), List.getElem?_eq_none (by omega)]; rfl
@[simp] theorem atD_0 {ds : List D} : atD ds 0 = ds[0]? := atD_ofNat (n := 0)
@[simp] theorem atD_1 {ds : List D} : atD ds 1 = ds[1]? := atD_ofNat (n := 1)
@[simp] theorem atD_2 {ds : List D} : atD ds 2 = ds[2]? := atD_ofNat (n := 2)
@[simp] theorem atD_3 {ds : List D} : atD ds 3 = ds[3]? := atD_ofNat (n := 3)
@[simp] theorem atD_4 {ds : List D} : atD ds 4 = ds[4]? := atD_ofNat (n := 4)
theorem atD_last {ds : List D} {d : D} : atD (ds ++ [d]) (-1) = some d := by
  unfold atD atI ixN
  rw [if_neg (by decide), if_pos (by simp; omega)]
  show (ds ++ [d])[((-1 : Int) + ((ds ++ [d]).length : Nat)).toNat]? = some d
  have : ((-1 : Int) + ((ds ++ [d]).length : Nat)).toNat = ds.length := by simp; omega
  rw [this]; simp
/-! calls -/
@[simp] theorem wp_mCall {n : Nat} {f : Fn} : Wp (mCall n f ms) e S Q ↔ Wp ms e S fun rs e1 S1 => rs.length = n ∧ ∃ sls, toArgs rs e1 = some sls ∧ Fp f sls S1 fun r S2 => Q r.r e1 S2 := by
  simp only [mCall, wp_bnd]
  constructor
  · rintro ⟨rs, e1, S1, h, q⟩
    refine ⟨rs, e1, S1, h, ?_⟩
    by_cases hn : rs.length = n
    · rw [if_pos hn] at q
      obtain ⟨r, e2, S2, h2, q⟩ := q
      dsimp only at h2
      cases ha : toArgs rs e1 with
      | none => rw [ha] at h2; cases h2
      | some sls =>
        rw [ha] at h2
        obtain ⟨p, hp, he⟩ := Option.map_eq_some_iff.mp h2
        cases he
        exact ⟨hn, sls, rfl, p.1, p.2, hp, q⟩
    · rw [if_neg hn] at q
      exact (wp_stk.mp q).elim
  · rintro ⟨rs, e1, S1, h, hn, sls, ha, r, S2, hf, q⟩
    refine ⟨rs, e1, S1, h, ?_⟩
    dsimp only
    rw [if_pos hn]
    exact ⟨r.r, e1, S2, by simp only [ha, hf]; rfl, q⟩
@[simp] theorem toArgs_nil : toArgs [] e = some [] := rfl
@[simp] theorem toArgs_cons {r : R} {rs : List R} : toArgs (r :: rs) e = (toArg r e).bind fun s => (toArgs rs e).map (s :: ·) := by
  simp only [toArgs]
  cases toArg r e <;> cases toArgs rs e <;> rfl
@[simp] theorem toArg_d {x : D} : toArg (.d x) e = some (.d x) := rfl
@[simp] theorem toArg_new {x : O} : toArg (.new x) e = some (.brw x) := rfl
@[simp] theorem toArg_brw {x : O} : toArg (.brw x) e = some (.brw x) := rfl
theorem toArg_loc {i : Nat} {o : O} (h : e[i]? = some (some (.own o))) : toArg (.loc i) e = some (.brw o) := by unfold toArg; simp only [h]
@[simp] theorem r_d {x : D} : (Rt.d x).r = .d x := rfl
@[simp] theorem r_new {x : O} : (Rt.new x).r = .new x := rfl
def flQ (Q : Rt → Sto → Prop) : Fl → En → Sto → Prop
  | .rt r, _, S => Q r S
  | .nx, _, S => Q (.d .non) S
  | _, _, _ => False
@[simp] theorem flQ_rt {Q : Rt → Sto → Prop} {r : Rt} : flQ Q (.rt r) e S = Q r S := rfl
@[simp] theorem flQ_nx {Q : Rt → Sto → Prop} : flQ Q .nx e S = Q (.d .non) S := rfl
@[simp] theorem flQ_bk {Q : Rt → Sto → Prop} : flQ Q .bk e S = False := rfl
@[simp] theorem flQ_ct {Q : Rt → Sto → Prop} : flQ Q .ct e S = False := rfl
theorem fp_runF {nl : Nat} {b : M Fl} {sls : List Sl} {Q : Rt → Sto → Prop} : Fp (runF nl b) sls S Q ↔ Wp b (sls.map some ++ List.replicate nl none) S (flQ Q) := by
  unfold Fp Wp runF
  constructor
  · rintro ⟨r, S', h, q⟩
    split at h <;> cases h
    · exact ⟨.rt _, _, _, by assumption, q⟩
    · exact ⟨.nx, _, _, by assumption, q⟩
  · rintro ⟨fl, e', S', h, q⟩
    cases fl with
    | rt r => exact ⟨r, S', by rw [h], q⟩
    | nx => exact ⟨_, S', by rw [h], q⟩
    | bk => exact q.elim
    | ct => exact q.elim
/-! statements -/
variable {F : Fl → En → Sto → Prop} {a b : M Fl}
def seQ (b : M Fl) (F : Fl → En → Sto → Prop) : Fl → En → Sto → Prop
  | .nx, e, S => Wp b e S F
  | z, e, S => F z e S
@[simp] theorem seQ_nx : seQ b F .nx e S = Wp b e S F := rfl
@[simp] theorem seQ_rt {r : Rt} : seQ b F (.rt r) e S = F (.rt r) e S := rfl
@[simp] theorem seQ_bk : seQ b F .bk e S = F .bk e S := rfl
@[simp] theorem seQ_ct : seQ b F .ct e S = F .ct e S := rfl
@[simp] theorem wp_mSeq : Wp (mSeq a b) e S F ↔ Wp a e S (seQ b F) := by
  simp only [mSeq, wp_bnd]
  have h : (fun fl e1 S1 => Wp (match fl with | .nx => b | z => pur z) e1 S1 F) = seQ b F := by
    funext fl e1 S1
    cases fl <;> simp [seQ]
  exact iff_of_eq (congrArg (Wp a e S) h)
@[simp] theorem wp_mSkip : Wp mSkip e S F ↔ F .nx e S := wp_pur
@[simp] theorem wp_mIfS {c : M Bool} : Wp (mIfS c a b) e S F ↔ Wp c e S fun x e1 S1 => if x = true then Wp a e1 S1 F else Wp b e1 S1 F := by simp [mIfS, wp_ite]
@[simp] theorem wp_mDrop : Wp (mDrop ma) e S F ↔ Wp ma e S fun _ e1 S1 => F .nx e1 S1 := by simp [mDrop]
@[simp] theorem wp_mRet : Wp (mRet ma) e S F ↔ Wp ma e S fun r e1 S1 => Wp (toRt r) e1 S1 F := by simp [mRet]
@[simp] theorem wp_toRt_d {x : D} : Wp (toRt (.d x)) e S F ↔ F (.rt (.d x)) e S := wp_some rfl
@[simp] theorem wp_toRt_new {x : O} : Wp (toRt (.new x)) e S F ↔ F (.rt (.new x)) e S := wp_some rfl
theorem wp_toRt_loc {i : Nat} {o : O} (h : e[i]? = some (some (.own o))) : Wp (toRt (.loc i)) e S F ↔ F (.rt (.new o)) e S := wp_some (by unfold toRt; simp only [h])
@[simp] theorem wp_mRetN : Wp mRetN e S F ↔ F (.rt (.d .non)) e S := wp_pur
@[simp] theorem wp_mSet {i : Nat} : Wp (mSet i ma) e S F ↔ Wp ma e S fun r e1 S1 => Wp (setS i r) e1 S1 F := by simp [mSet]
theorem wp_setS {i : Nat} {r : R} {s : Sl} (h : toSl r = some s) (hi : i < e.length) : Wp (setS i r) e S F ↔ F .nx (e.set i (some s)) S := wp_some (by unfold setS; simp [h, hi])
@[simp] theorem wp_setS_d {i : Nat} {x : D} : Wp (setS i (.d x)) e S F ↔ i < e.length ∧ F .nx (e.set i (some (.d x))) S := by
  constructor
  · rintro ⟨a, e', S', h, q⟩; obtain ⟨s, h1, h2, h3⟩ := setS_eq h; cases h1; cases h3; exact ⟨h2, q⟩
  · rintro ⟨h, q⟩; exact (wp_setS rfl h).mpr q
@[simp] theorem wp_setS_new {i : Nat} {x : O} : Wp (setS i (.new x)) e S F ↔ i < e.length ∧ F .nx (e.set i (some (.own x))) S := by
  constructor
  · rintro ⟨a, e', S', h, q⟩; obtain ⟨s, h1, h2, h3⟩ := setS_eq h; cases h1; cases h3; exact ⟨h2, q⟩
  · rintro ⟨h, q⟩; exact (wp_setS rfl h).mpr q
@[simp] theorem wp_mSetI {mv mo mi : M R} : Wp (mSetI mv mo mi) e S F ↔ Wp mv e S fun v e1 S1 => ∃ x, v = .d x ∧ Wp mo e1 S1 fun o e2 S2 => Wp mi e2 S2 fun i e3 S3 => Wp (setIt o i x) e3 S3 F := by
  simp only [mSetI, wp_bnd]
  constructor
  · rintro ⟨v, e1, S1, h, q⟩
    refine ⟨v, e1, S1, h, ?_⟩
    split at q
    · exact ⟨_, rfl, by simpa using q⟩
    · exact (wp_stk.mp q).elim
  · rintro ⟨v, e1, S1, h, x, rfl, q⟩
    exact ⟨_, e1, S1, h, by simpa using q⟩
theorem wp_setIt {o : R} {ds : List D} {k : Int} {j : Nat} {x : D} (h : look o e S = some (.lst ds)) (hw : isW o = true) (hk : ixN ds.length k = some j) : Wp (setIt o (.d (.int k)) x) e S F ↔ F .nx (putE o (.lst (ds.set j x)) e) (putS o (.lst (ds.set j x)) S) :=
  wp_some (by unfold setIt; simp [h, hw, hk])
@[simp] theorem wp_mAsg {t : Tgt} : Wp (mAsg t ma) e S F ↔ Wp ma e S fun r e1 S1 => ∃ x, r = .d x ∧ ∃ e2, t x e1 = some e2 ∧ F .nx e2 S1 := by
  simp only [mAsg, wp_bnd]
  constructor
  · rintro ⟨v, e1, S1, h, q⟩
    refine ⟨v, e1, S1, h, ?_⟩
    obtain ⟨a, e2, S2, h2, q⟩ := q
    dsimp only at h2
    split at h2
    · obtain ⟨e3, h3, h4⟩ := Option.map_eq_some_iff.mp h2
      cases h4
      exact ⟨_, rfl, _, h3, q⟩
    · cases h2
  · rintro ⟨v, e1, S1, h, x, rfl, e2, ht, q⟩
    exact ⟨_, e1, S1, h, .nx, e2, S1, by simp [ht], q⟩
@[simp] theorem wp_mPar2 {i j : Nat} : Wp (mPar2 i j ma mb) e S F ↔ Wp ma e S fun x e1 S1 => Wp mb e1 S1 fun y e2 S2 => Wp (setS i x) e2 S2 (seQ (setS j y) F) := by simp [mPar2]
@[simp] theorem wp_mPar3 {i j l : Nat} : Wp (mPar3 i j l ma mb mc) e S F ↔ Wp ma e S fun x e1 S1 => Wp mb e1 S1 fun y e2 S2 => Wp mc e2 S2 fun z e3 S3 => Wp (setS i x) e3 S3 (seQ (mSeq (setS j y) (setS l z)) F) := by simp [mPar3]
@[simp] theorem gt_name {i : Nat} {d : D} {e1 : En} : gtName i d e = some e1 ↔ i < e.length ∧ e.set i (some (.d d)) = e1 := by unfold gtName; split <;> simp [*]
@[simp] theorem gt_nil {e1 : En} : gtNil [] e = some e1 ↔ e = e1 := by simp [gtNil]
theorem gt_cons {t : Tgt} {ts : Tgts} {d : D} {ds : List D} {e2 : En} : gtCons t ts (d :: ds) e = some e2 ↔ ∃ e1, t d e = some e1 ∧ ts ds e1 = some e2 := by
  simp only [gtCons]
  cases h : t d e <;> simp
end
end G

set_option Elab.async false
set_option linter.all false
set_option maxRecDepth 1000000
set_option maxHeartbeats 2000000
/-! G14: what a mirror comes to: loops, built-ins, methods. -/
namespace G
variable [Wld]
open PySem PySem.Spec PyProof.Rows L2
theorem option_map_wp {α β : Type} {o : Option β} {k : β → α} {e : En} {S : Sto} {Q : α → En → Sto → Prop} : (∃ a e' S', (o.map fun d => (k d, e, S)) = some (a, e', S') ∧ Q a e' S') ↔ ∃ d, o = some d ∧ Q (k d) e S := by
  constructor
  · rintro ⟨a, e', S', h, q⟩; obtain ⟨d, h1, h2⟩ := Option.map_eq_some_iff.mp h; cases h2; exact ⟨d, h1, q⟩
  · rintro ⟨d, h, q⟩; exact ⟨_, _, _, Option.map_eq_some_iff.mpr ⟨d, h, rfl⟩, q⟩
section
variable {e : En} {S : Sto} {Q : R → En → Sto → Prop} {F : Fl → En → Sto → Prop} {ma mb : M R} {ms : M (List R)}
def varQ (o : Option (Option Sl)) (i : Nat) (e : En) (S : Sto) (Q : R → En → Sto → Prop) : Prop := match o with
  | some (some (.d x)) => Q (.d x) e S
  | some (some (.own _)) => Q (.loc i) e S
  | some (some (.brw o)) => Q (.brw o) e S
  | some (some (.lm i cs)) => Q (.lm i cs) e S
  | _ => False
theorem wp_mVarC {i : Nat} {a : Option Sl} : Wp (mVar i) (a :: e) S Q ↔ varQ (a :: e)[i]? i (a :: e) S Q := wp_mVar
theorem varQ_d {i : Nat} {x : D} : varQ (some (some (.d x))) i e S Q = Q (.d x) e S := rfl
theorem varQ_own {i : Nat} {x : O} : varQ (some (some (.own x))) i e S Q = Q (.loc i) e S := rfl
theorem varQ_brw {i : Nat} {x : O} : varQ (some (some (.brw x))) i e S Q = Q (.brw x) e S := rfl
/-! what is walked -/
@[simp] theorem wp_mSrc {q : Src → En → Sto → Prop} : Wp (mSrc ma) e S q ↔ Wp ma e S fun r e1 S1 => Wp (srcOf r) e1 S1 q := by simp [mSrc]
@[simp] theorem wp_src_tup {ds : List D} {q : Src → En → Sto → Prop} : Wp (srcOf (.d (.tup ds))) e S q ↔ q ⟨ds, []⟩ e S := wp_some rfl
@[simp] theorem wp_src_lst {ds : List D} {q : Src → En → Sto → Prop} : Wp (srcOf (.d (.lst ds))) e S q ↔ q ⟨ds, []⟩ e S := wp_some rfl
@[simp] theorem wp_src_new {ds : List D} {q : Src → En → Sto → Prop} : Wp (srcOf (.new (.lst ds))) e S q ↔ q ⟨ds, []⟩ e S := wp_some rfl
@[simp] theorem wp_src_brw {ds : List D} {q : Src → En → Sto → Prop} : Wp (srcOf (.brw (.lst ds))) e S q ↔ q ⟨ds, []⟩ e S := wp_some rfl
theorem wp_src_loc {i : Nat} {ds : List D} {q : Src → En → Sto → Prop} (h : e[i]? = some (some (.own (.lst ds)))) : Wp (srcOf (.loc i)) e S q ↔ q ⟨ds, [(.loc i, ds)]⟩ e S := wp_some (by simp [srcOf, look, h])
@[simp] theorem wp_srcR1 {j : Int} {q : Src → En → Sto → Prop} : Wp (srcR1 [.d (.int j)]) e S q ↔ (-(2 ^ 62) ≤ j ∧ j ≤ 1000000) ∧ q ⟨rngD 0 j.toNat, []⟩ e S := by
  unfold Wp srcR1
  by_cases h : -(2 ^ 62) ≤ j ∧ j ≤ 1000000
  · simp only [if_pos h]; exact ⟨fun ⟨_, _, _, h1, q⟩ => by cases h1; exact ⟨h, q⟩, fun q => ⟨_, _, _, rfl, q.2⟩⟩
  · simp only [if_neg h]; exact ⟨fun ⟨_, _, _, h1, q⟩ => (nomatch h1), fun q => (h q.1).elim⟩
@[simp] theorem wp_srcStr {x : Str} {q : Src → En → Sto → Prop} : Wp (srcStr (.d (.str x))) e S q ↔ x.cps.size ≤ 1000000 ∧ q ⟨x.cps.toList.map fun c => .str ⟨#[c]⟩, []⟩ e S := by
  constructor
  · rintro ⟨_, _, _, h, k⟩
    obtain ⟨y, h1, h2, h3⟩ := srcStr_eq h
    cases h1; cases h3
    exact ⟨h2, k⟩
  · rintro ⟨h, k⟩
    exact ⟨_, _, _, by unfold srcStr; simp [h], k⟩
/-! for -/
@[simp] theorem wp_mFor {t : Tgt} {mi : M Src} {b : M Fl} : Wp (mFor t mi b) e S F ↔ Wp mi e S fun src e1 S1 => (src.ws.all fun p => isRef p.1) = true ∧ Wp (forL t b src.ws src.items) e1 S1 F := by
  simp only [mFor, wp_bnd, wp_ite, wp_stk]
  have h : ∀ src : Src, ∀ p : Prop, (if (src.ws.all fun p => isRef p.1) = true then p else False) ↔ ((src.ws.all fun p => isRef p.1) = true ∧ p) := fun src p => by split <;> simp [*]
  constructor
  · exact fun w => w.mono fun a e S q => (h _ _).mp q
  · exact fun w => w.mono fun a e S q => (h _ _).mpr q
def lpQ (I : En → Sto → Prop) (F : Fl → En → Sto → Prop) : Fl → En → Sto → Prop
  | .nx, e, S => I e S
  | .ct, e, S => I e S
  | .bk, e, S => F .nx e S
  | .rt r, e, S => F (.rt r) e S
@[simp] theorem lpQ_nx {I : En → Sto → Prop} : lpQ I F .nx e S = I e S := rfl
@[simp] theorem lpQ_ct {I : En → Sto → Prop} : lpQ I F .ct e S = I e S := rfl
@[simp] theorem lpQ_bk {I : En → Sto → Prop} : lpQ I F .bk e S = F .nx e S := rfl
@[simp] theorem lpQ_rt {I : En → Sto → Prop} {r : Rt} : lpQ I F (.rt r) e S = F (.rt r) e S := rfl
theorem wp_forL {t : Tgt} {b : M Fl} (I : List D → En → Sto → Prop) {ds : List D} (h0 : I ds e S)
    (hs : ∀ d ds e S, I (d :: ds) e S → ∃ e1, t d e = some e1 ∧ Wp b e1 S (lpQ (I ds) F)) (hd : ∀ e S, I [] e S → F .nx e S) : Wp (forL t b [] ds) e S F := by
  induction ds generalizing e S with
  | nil => exact ⟨_, _, _, by unfold forL; rw [if_pos (wat_nil _ _)], hd _ _ h0⟩
  | cons d ds ih =>
    obtain ⟨e1, h1, fl, e2, S2, h2, q⟩ := hs d ds e S h0
    cases fl with
    | nx =>
      obtain ⟨a, e3, S3, h3, q⟩ := ih q
      exact ⟨a, e3, S3, by rw [forL]; simp only [wat_nil, h1, h2, if_true]; exact h3, q⟩
    | ct =>
      obtain ⟨a, e3, S3, h3, q⟩ := ih q
      exact ⟨a, e3, S3, by rw [forL]; simp only [wat_nil, h1, h2, if_true]; exact h3, q⟩
    | bk => exact ⟨.nx, e2, S2, by rw [forL]; simp only [wat_nil, h1, h2, if_true], q⟩
    | rt r => exact ⟨.rt r, e2, S2, by rw [forL]; simp only [wat_nil, h1, h2, if_true], q⟩
/-- the items that were, too -/
theorem wp_forL' {t : Tgt} {b : M Fl} {all : List D} (I : List D → List D → En → Sto → Prop) (h0 : I [] all e S)
    (hs : ∀ pre d post e S, all = pre ++ d :: post → I pre (d :: post) e S → ∃ e1, t d e = some e1 ∧ Wp b e1 S (lpQ (I (pre ++ [d]) post) F)) (hd : ∀ e S, I all [] e S → F .nx e S) : Wp (forL t b [] all) e S F := by
  refine wp_forL (fun ds e S => ∃ pre, all = pre ++ ds ∧ I pre ds e S) ⟨[], rfl, h0⟩ ?_ ?_
  · rintro d ds e S ⟨pre, hp, hi⟩
    obtain ⟨e1, h1, q⟩ := hs pre d ds e S hp hi
    refine ⟨e1, h1, q.mono fun fl e2 S2 k => ?_⟩
    cases fl with
    | nx => exact ⟨pre ++ [d], by simp [hp], k⟩
    | ct => exact ⟨pre ++ [d], by simp [hp], k⟩
    | bk => exact k
    | rt r => exact k
  · rintro e S ⟨pre, hp, hi⟩
    have : all = pre := by simpa using hp
    subst this
    exact hd e S hi
/-! while -/
theorem wp_whileL {c : M Bool} {b : M Fl} (I : Nat → En → Sto → Prop) {n N : Nat} (hn : n < N) (h0 : I n e S)
    (hs : ∀ n e S, I n e S → Wp c e S fun x e1 S1 => if x = true then ∃ m, n = m + 1 ∧ Wp b e1 S1 (lpQ (I m) F) else F .nx e1 S1) : Wp (whileL c b N) e S F := by
  induction N generalizing e S n with
  | zero => omega
  | succ N ih =>
    obtain ⟨x, e1, S1, h1, q⟩ := hs n e S h0
    cases x with
    | false => exact ⟨.nx, e1, S1, by rw [whileL]; simp only [h1], by simpa using q⟩
    | true =>
      rw [if_pos rfl] at q
      obtain ⟨m, hm, fl, e2, S2, h2, q⟩ := q
      cases fl with
      | nx =>
        obtain ⟨a, e3, S3, h3, q⟩ := ih (by omega) q
        exact ⟨a, e3, S3, by rw [whileL]; simp only [h1, h2]; exact h3, q⟩
      | ct =>
        obtain ⟨a, e3, S3, h3, q⟩ := ih (by omega) q
        exact ⟨a, e3, S3, by rw [whileL]; simp only [h1, h2]; exact h3, q⟩
      | bk => exact ⟨.nx, e2, S2, by rw [whileL]; simp only [h1, h2], q⟩
      | rt r => exact ⟨.rt r, e2, S2, by rw [whileL]; simp only [h1, h2], q⟩
/-! comprehensions -/
@[simp] theorem wp_mLc {vs : List Nat} {t : Tgt} {mi : M Src} {c : M Bool} {elt : M R} : Wp (mLc vs t mi c elt) e S Q ↔ Wp mi e S fun src e1 S1 => Wp (compL vs t c elt src.ws src.items) (wipeE e1 vs) S1 fun ys e2 S2 => Q (.new (.lst ys)) e2 S2 := by
  simp only [mLc, wp_bnd, wp_pur]
  rfl
@[simp] theorem wipeE_nil {e : En} : wipeE e [] = e := rfl
@[simp] theorem wipeE_cons {e : En} {v : Nat} {vs : List Nat} : wipeE e (v :: vs) = (wipeE e vs).set v none := rfl
theorem wp_compL {vs : List Nat} {t : Tgt} {c : M Bool} {elt : M R} {ws : List (R × List D)} {all : List D} {q : List D → En → Sto → Prop} (J : List D → List D → List D → Sto → Prop) (hw : ∀ S, wat ws e S = true) (h0 : J [] all [] S)
    (hs : ∀ pre d post acc S, all = pre ++ d :: post → J pre (d :: post) acc S → ∃ e1, t d e = some e1 ∧ Wp c e1 S fun b e2 S2 => if b = true then Wp elt e2 S2 fun r e3 S3 => ∃ y, r = .d y ∧ wipeE e3 vs = e ∧ J (pre ++ [d]) post (acc ++ [y]) S3 else wipeE e2 vs = e ∧ J (pre ++ [d]) post acc S2)
    (hd : ∀ acc S, J all [] acc S → q acc e S) : Wp (compL vs t c elt ws all) e S q := by
  suffices h : ∀ (post pre acc : List D) (S : Sto), all = pre ++ post → J pre post acc S → Wp (compL vs t c elt ws post) e S fun ys e2 S2 => q (acc ++ ys) e2 S2 by simpa using h all [] [] S rfl h0
  intro post
  induction post with
  | nil =>
    intro pre acc S hp hj
    have : all = pre := by simpa using hp
    subst this
    exact ⟨[], e, S, by rw [compL]; simp only [hw, if_true], by simpa using hd acc S hj⟩
  | cons d post ih =>
    intro pre acc S hp hj
    obtain ⟨e1, h1, b, e2, S2, h2, q2⟩ := hs pre d post acc S hp hj
    cases b with
    | false =>
      obtain ⟨hz, hj⟩ := q2
      obtain ⟨ys, e4, S4, h4, q4⟩ := ih (pre ++ [d]) acc S2 (by simp [hp]) hj
      exact ⟨ys, e4, S4, by rw [compL]; simp only [hw, h1, h2, hz, if_true]; exact h4, q4⟩
    | true =>
      rw [if_pos rfl] at q2
      obtain ⟨r, e3, S3, h3, y, rfl, hz, hj⟩ := q2
      obtain ⟨ys, e4, S4, h4, q4⟩ := ih (pre ++ [d]) (acc ++ [y]) S3 (by simp [hp]) hj
      exact ⟨y :: ys, e4, S4, by rw [compL]; simp only [hw, h1, h2, h3, hz, if_true, h4], by simpa using q4⟩
/-! built-ins -/
@[simp] theorem g1_one {g : R → M R} {r : R} : g1 g [r] = g r := rfl
theorem wp_map {α : Type} {o : Option α} {k : α → R} {m : M R} (h : m e S = o.map fun d => (k d, e, S)) : Wp m e S Q ↔ ∃ d, o = some d ∧ Q (k d) e S := by
  unfold Wp; rw [h]; exact option_map_wp
@[simp] theorem seqOf_tup {ds : List D} : seqOf (.d (.tup ds)) e S = some ds := rfl
@[simp] theorem seqOf_lst {ds : List D} : seqOf (.d (.lst ds)) e S = some ds := rfl
@[simp] theorem seqOf_new {ds : List D} : seqOf (.new (.lst ds)) e S = some ds := rfl
@[simp] theorem seqOf_brw {ds : List D} : seqOf (.brw (.lst ds)) e S = some ds := rfl
theorem look_loc {i : Nat} {o : O} (h : e[i]? = some (some (.own o))) : look (.loc i) e S = some o := by simp [look, h]
theorem wp_len {r : R} {ds : List D} (h : seqOf r e S = some ds) : Wp (gLen r) e S Q ↔ Q (.d (.int ds.length)) e S := by
  refine (wp_map (o := seqOf r e S) (k := fun ds => .d (.int (ds.length : Nat))) ?_).trans ?_
  · cases r with
    | d x => cases x <;> first | rfl | (simp [seqOf, look] at h)
    | _ => rfl
  · simp [h]
@[simp] theorem wp_len_str {x : Str} : Wp (gLen (.d (.str x))) e S Q ↔ x.length ≤ 1000000 ∧ Q (.d (.int x.length)) e S := by
  unfold Wp gLen
  by_cases h : x.length ≤ 1000000
  · simp only [if_pos h]; exact ⟨fun ⟨_, _, _, h1, q⟩ => by cases h1; exact ⟨h, q⟩, fun q => ⟨_, _, _, rfl, q.2⟩⟩
  · simp only [if_neg h]; exact ⟨fun ⟨_, _, _, h1, q⟩ => (nomatch h1), fun q => (h q.1).elim⟩
theorem wp_len_tup {ds : List D} : Wp (gLen (.d (.tup ds))) e S Q ↔ Q (.d (.int ds.length)) e S := wp_len rfl
theorem wp_len_lst {ds : List D} : Wp (gLen (.d (.lst ds))) e S Q ↔ Q (.d (.int ds.length)) e S := wp_len rfl
theorem wp_len_new {ds : List D} : Wp (gLen (.new (.lst ds))) e S Q ↔ Q (.d (.int ds.length)) e S := wp_len rfl
theorem wp_len_brw {ds : List D} : Wp (gLen (.brw (.lst ds))) e S Q ↔ Q (.d (.int ds.length)) e S := wp_len rfl
theorem wp_tuple {r : R} : Wp (gTuple r) e S Q ↔ ∃ ds, seqOf r e S = some ds ∧ Q (.d (.tup ds)) e S := wp_map (k := fun ds => .d (.tup ds)) rfl
theorem wp_list {r : R} : Wp (gList r) e S Q ↔ ∃ ds, seqOf r e S = some ds ∧ Q (.new (.lst ds)) e S := wp_map (k := fun ds => .new (.lst ds)) rfl
@[simp] theorem wp_int_int {i : Int} : Wp (gInt (.d (.int i))) e S Q ↔ Q (.d (.int i)) e S := wp_some rfl
@[simp] theorem wp_int_bl {b : Bool} : Wp (gInt (.d (.bl b))) e S Q ↔ Q (.d (.int (if b then 1 else 0))) e S := wp_some rfl
@[simp] theorem wp_neg {i : Int} : Wp (gNeg (.d (.int i))) e S Q ↔ Q (.d (.int (-i))) e S := wp_pur
theorem wp_bls {f : List Bool → Bool} {r : R} {ds : List D} {bs : List Bool} (h : lstOf r e S = some ds) (hb : blsOf ds = some bs) : Wp (gBls f r) e S Q ↔ Q (.d (.bl (f bs))) e S := wp_some (by simp [gBls, h, hb])
theorem wp_dict {r : R} {ds : List D} {kvs : List (Key × D)} (h : lstOf r e S = some ds) (hk : prsOf ds = some kvs) : Wp (gDict r) e S Q ↔ Q (.new (.dct (mergeD [] kvs))) e S := wp_some (by simp [gDict, h, hk])
theorem wp_sortedK {r : R} {kvs : List (Key × D)} {ks : List Str} (h : look r e S = some (.dct kvs)) (hk : keysS kvs = some ks) (hl : ks.length < 64) : Wp (gSortedK r) e S Q ↔ Q (.new (.lst ((srtS ks).map D.str))) e S := wp_some (by simp [gSortedK, h, hk, hl])
/-! operators -/
@[simp] theorem wp_add_int {i j : Int} : Wp (gAdd (.d (.int i)) (.d (.int j))) e S Q ↔ Q (.d (.int (i + j))) e S := wp_some rfl
@[simp] theorem wp_add_str {x y : Str} : Wp (gAdd (.d (.str x)) (.d (.str y))) e S Q ↔ x.length + y.length ≤ 1000000 ∧ Q (.d (.str (x ++ y))) e S := by
  unfold Wp gAdd
  by_cases h : x.length + y.length ≤ 1000000
  · simp only [if_pos h]; exact ⟨fun ⟨_, _, _, h1, q⟩ => by cases h1; exact ⟨h, q⟩, fun q => ⟨_, _, _, rfl, q.2⟩⟩
  · simp only [if_neg h]; exact ⟨fun ⟨_, _, _, h1, q⟩ => (nomatch h1), fun q => (h q.1).elim⟩
theorem deq_flat {n : Nat} {x y : D} (fx : flat x = true) : deq n x y = some (eqS x y) := deq_unlike (by cases x <;> first | (cases y <;> rfl) | cases fx)
theorem datB_flat {x : D} (fx : flat x = true) : datB x = true := by cases x <;> first | rfl | cases fx
theorem isDic_flat {x : D} (fx : flat x = true) : isDic x = false := by cases x <;> first | rfl | cases fx
theorem dat_d {x : D} (h : datB x = true) : dat (.d x) e S = some x := by cases x <;> first | rfl | cases h
theorem wp_eq {neg : Bool} {x y : D} (fx : flat x = true) (fy : flat y = true) : Wp (gEq neg (.d x) (.d y)) e S Q ↔ Q (.d (.bl (eqS x y != neg))) e S := by
  refine wp_some ?_
  unfold gEq
  rw [dat_d (datB_flat fx), dat_d (datB_flat fy)]
  simp [datB_flat fx, datB_flat fy, neOk, isDic_flat fx, isDic_flat fy, deq_flat fx]
@[simp] theorem wp_eq_int {neg : Bool} {x y : Int} : Wp (gEq neg (.d (.int x)) (.d (.int y))) e S Q ↔ Q (.d (.bl ((x == y) != neg))) e S := wp_eq rfl rfl
@[simp] theorem wp_eq_str {neg : Bool} {x y : Str} : Wp (gEq neg (.d (.str x)) (.d (.str y))) e S Q ↔ Q (.d (.bl ((x == y) != neg))) e S := wp_eq rfl rfl
@[simp] theorem wp_eq_bl {neg : Bool} {x y : Bool} : Wp (gEq neg (.d (.bl x)) (.d (.bl y))) e S Q ↔ Q (.d (.bl ((x == y) != neg))) e S := wp_eq rfl rfl
def inD (x : D) (ds : List D) : Bool := ds.any fun y => eqS y x
theorem inF_flat {x : D} : ∀ {ds : List D}, ds.all flat = true → inF x ds = some (inD x ds)
  | [], _ => rfl
  | d :: ds, h => by
    rw [List.all_cons, Bool.and_eq_true] at h
    unfold inF
    rw [deq_flat h.1, inF_flat h.2]
    rfl
/-- x in r, in general -/
theorem wp_inG {neg : Bool} {x : D} {r : R} (hr : ∀ z, r ≠ .d (.str z)) : Wp (gIn neg (.d x) r) e S Q ↔ ∃ ds, seqOf r e S = some ds ∧ datB x = true ∧ datsB ds = true ∧ ∃ b, inF x ds = some b ∧ Q (.d (.bl (b != neg))) e S := by
  have : gIn neg (.d x) r e S = (match seqOf r e S with
    | some ds => if datB x && datsB ds then (inF x ds).map fun b => (R.d (.bl (b != neg)), e, S) else none
    | none => none) := by
    unfold gIn
    split
    · rename_i z _ _ ; exact (hr _ rfl).elim
    · rename_i h1 _; cases h1; rfl
    · rename_i h2 h3; first | exact (h2 _ rfl).elim | exact (h3 _ rfl).elim | exact (h2 _ _ rfl rfl).elim | exact (h3 _ _ rfl rfl).elim
  unfold Wp
  rw [this]
  constructor
  · rintro ⟨z, e', S', h, q⟩
    split at h
    · split at h
      · rename_i hf
        rw [Bool.and_eq_true] at hf
        obtain ⟨b, hb, hz⟩ := Option.map_eq_some_iff.mp h
        cases hz
        exact ⟨_, by assumption, hf.1, hf.2, b, hb, q⟩
      · cases h
    · cases h
  · rintro ⟨ds, h1, h2, h3, b, hb, q⟩
    exact ⟨_, _, _, by rw [h1]; simp [h2, h3, hb], q⟩
@[simp] theorem dSub_int {i j : Int} : dSub (.int i) (.int j) = some (.int (i - j)) := rfl
theorem dMod_int {i j : Int} (h : 0 < j) : dMod (.int i) (.int j) = some (.int (i % j)) := if_pos h
theorem dDiv_int {i j : Int} (h : 0 < j ∧ j < 1073741824) : dDiv (.int i) (.int j) = some (.int (i / j)) := if_pos h
@[simp] theorem dLt_int {i j : Int} : dLt (.int i) (.int j) = some (.bl (decide (i < j))) := rfl
@[simp] theorem dLe_int {i j : Int} : dLe (.int i) (.int j) = some (.bl (decide (i ≤ j))) := rfl
theorem dPow_int {i j : Int} (h : 0 ≤ j ∧ j ≤ 1000 ∧ i.natAbs < 1000) : dPow (.int i) (.int j) = some (.int (i ^ j.toNat)) := if_pos h
theorem dMul_int {i j : Int} (h : (small i || small j) = true) : dMul (.int i) (.int j) = some (.int (i * j)) := if_pos h
/-! methods -/
@[simp] theorem wp_mMth {T : String} {g : R → List R → M R} : Wp (mMth T g ma ms) e S Q ↔ Wp ma e S fun r e1 S1 => isTy T r e1 S1 = true ∧ Wp ms e1 S1 fun rs e2 S2 => Wp (g r rs) e2 S2 Q := by
  simp only [mMth, wp_bnd]
  constructor
  · exact fun w => w.mono fun r e1 S1 ⟨x, e2, S2, h, q⟩ => by
      obtain ⟨h1, h2⟩ := chk_eq h
      cases h2
      exact ⟨h1, q⟩
  · exact fun w => w.mono fun r e1 S1 ⟨h, q⟩ => ⟨r, e1, S1, by unfold chk; rw [if_pos h], q⟩
@[simp] theorem isTy_str {x : Str} : isTy "str" (.d (.str x)) e S = true := rfl
theorem isTy_list {r : R} {ds : List D} (h : look r e S = some (.lst ds)) : isTy "list" r e S = true := by
  unfold isTy
  rw [if_neg (by decide), if_pos rfl, h]
theorem wp_wrL {r : R} {f : List D → Option (R × List D)} {ds es : List D} {x : R} (h : look r e S = some (.lst ds)) (hw : isW r = true) (hf : f ds = some (x, es)) : Wp (wrL r f) e S Q ↔ Q x (putE r (.lst es) e) (putS r (.lst es) S) := wp_some (by unfold wrL; simp [h, hw, hf])
theorem wp_append {r : R} {ds : List D} {x : D} (h : look r e S = some (.lst ds)) (hw : isW r = true) (hl : ds.length < 1000000) : Wp (gAppend r [.d x]) e S Q ↔ Q (.d .non) (putE r (.lst (ds ++ [x])) e) (putS r (.lst (ds ++ [x])) S) := wp_wrL h hw (by simp [hl])
theorem wp_pop0 {r : R} {ds : List D} {x : D} (h : look r e S = some (.lst (x :: ds))) (hw : isW r = true) : Wp (gPop r [.d (.int 0)]) e S Q ↔ Q (.d x) (putE r (.lst ds) e) (putS r (.lst ds) S) := by
  refine wp_wrL h hw ?_
  have : seqIndex? 0 (x :: ds).length = some 0 := by simp [seqIndex?]
  rw [if_pos (by decide), this]
  rfl
theorem wp_index {r : R} {ds : List D} {x : D} {j : Nat} (h : lstOf r e S = some ds) (fx : flat x = true) (fs : ds.all flat = true) (hj : idxD x ds = some j) : Wp (gIndex r [.d x]) e S Q ↔ Q (.d (.int j)) e S := wp_some (by unfold gIndex; simp only [h, Option.bind_some, fx, fs, hj]; rfl)
theorem wp_join {a : Str} {r : R} {ds : List D} {ys : List Str} (h : seqOf r e S = some ds) (hs : strsOf ds = some ys) (hl : (ys.map (·.length)).sum + ys.length * a.length ≤ 16777216) : Wp (gJoin (.d (.str a)) [r]) e S Q ↔ Q (.d (.str (Txt.join a ys))) e S := wp_some (by unfold gJoin; simp only [h, hs, Option.bind_some, if_pos hl])
@[simp] theorem putE_loc {i : Nat} {o : O} : putE (.loc i) o e = e.set i (some (.own o)) := rfl
@[simp] theorem putE_ref {n : Nat} {o : O} : putE (.d (.ref n)) o e = e := rfl
@[simp] theorem putS_loc {i : Nat} {o : O} : putS (.loc i) o S = S := rfl
@[simp] theorem putS_ref {n : Nat} {o : O} : putS (.d (.ref n)) o S = S.set n o := rfl
@[simp] theorem isW_loc {i : Nat} : isW (.loc i) = true := rfl
@[simp] theorem isW_ref {i : Nat} : isW (.d (.ref i)) = true := rfl
@[simp] theorem look_new {o : O} : look (.new o) e S = some o := rfl
@[simp] theorem look_brw {o : O} : look (.brw o) e S = some o := rfl
@[simp] theorem look_dl {ds : List D} : look (.d (.lst ds)) e S = some (.lst ds) := rfl
@[simp] theorem look_ref {n : Nat} : look (.d (.ref n)) e S = S[n]? := rfl
theorem lstOf_of {r : R} {ds : List D} (h : look r e S = some (.lst ds)) : lstOf r e S = some ds := by unfold lstOf; rw [h]
/-! slices -/
@[simp] theorem wp_mSl {l h : M (Option Int)} : Wp (mSl ma l h) e S Q ↔ Wp ma e S fun x e1 S1 => Wp l e1 S1 fun lo e2 S2 => Wp h e2 S2 fun hi e3 S3 => Wp (gSl x lo hi) e3 S3 Q := by simp [mSl]
@[simp] theorem wp_asI {i : Int} {q : Option Int → En → Sto → Prop} : Wp (asI (.d (.int i))) e S q ↔ q (some i) e S := wp_pur
@[simp] theorem wp_sl_tup {ds : List D} {lo hi : Option Int} : Wp (gSl (.d (.tup ds)) lo hi) e S Q ↔ Q (.d (.tup (cutD ds lo hi))) e S := wp_some rfl
theorem wp_sl_lst {r : R} {ds : List D} {lo hi : Option Int} (h : look r e S = some (.lst ds)) : Wp (gSl r lo hi) e S Q ↔ Q (.new (.lst (cutD ds lo hi))) e S := by
  refine wp_some ?_
  have : gSl r lo hi e S = (match look r e S with
    | some (.lst ds) => some (R.new (.lst (cutD ds lo hi)), e, S)
    | _ => none) := by
    cases r with
    | d x => cases x <;> first | (simp [look] at h; done) | rfl
    | _ => rfl
  rw [this, h]
theorem cutD_to {ds : List D} {n : Nat} : cutD ds none (some n) = ds.take n := by
  unfold cutD
  rw [HT.sIx_none, HT.sIx_nat]
  simp only [List.drop_zero, Nat.sub_zero]
  rw [List.take_eq_take_iff]
  omega
@[simp] theorem wp_mStar {i j : Nat} : Wp (mStar i j ma) e S F ↔ Wp ma e S fun r e1 S1 => ∃ d ds, r = .d (.tup (d :: ds)) ∧ i < e1.length ∧ j < e1.length ∧ F .nx ((e1.set i (some (.d d))).set j (some (.own (.lst ds)))) S1 := by
  simp only [mStar, wp_bnd]
  constructor
  · exact fun w => w.mono fun r e1 S1 ⟨fl, e2, S2, h, q⟩ => by
      obtain ⟨d, ds, rfl, h1, h2, h3⟩ := starE_eq h
      cases h3
      exact ⟨d, ds, rfl, h1, h2, q⟩
  · exact fun w => w.mono fun r e1 S1 ⟨d, ds, h, h1, h2, q⟩ => by
      subst h
      exact ⟨_, _, _, by unfold starE; simp [h1, h2], q⟩
theorem wp_mIsi {c : Cl} : Wp (mIsi c ma) e S Q ↔ Wp ma e S fun r e1 S1 => ∃ k, kd r e1 S1 = some k ∧ Q (.d (.bl (isK k c))) e1 S1 := by
  simp only [mIsi, wp_bnd]
  constructor
  · exact fun w => w.mono fun r e1 S1 q => option_map_wp.mp q
  · exact fun w => w.mono fun r e1 S1 q => option_map_wp.mpr q
end
end G

set_option Elab.async false
set_option linter.all false
set_option maxRecDepth 1000000
set_option maxHeartbeats 2000000
/-! G15: what a mirror comes to: by what objects hold. -/
namespace G
variable [Wld]
open PySem PySem.Spec PyProof.Rows L2
def ownQ : Option (Option Sl) → Option O
  | some (some (.own o)) => some o
  | _ => none
theorem ownQ_own {o : O} : ownQ (some (some (.own o))) = some o := rfl
def seqL : Option O → Option (List D)
  | some (.lst ds) => some ds
  | _ => none
theorem seqL_lst {ds : List D} : seqL (some (.lst ds)) = some ds := rfl
def isL : Option O → Bool
  | some (.lst _) => true
  | _ => false
theorem isL_lst {ds : List D} : isL (some (.lst ds)) = true := rfl
def ixO : Option O → D → Option D
  | some (.lst ds), .int i => atD ds i
  | some (.dct kvs), y => (keyOf y).bind (valD kvs)
  | _, _ => none
theorem ixO_lst {ds : List D} {i : Int} : ixO (some (.lst ds)) (.int i) = atD ds i := rfl
theorem ixO_dct_int {kvs : List (Key × D)} {i : Int} : ixO (some (.dct kvs)) (.int i) = valD kvs (.inl i) := rfl
theorem ixO_dct_str {kvs : List (Key × D)} {x : Str} : ixO (some (.dct kvs)) (.str x) = valD kvs (.inr x) := rfl
theorem lock_lst {ds : List D} : lock (.lst ds) = some (.lst ds) := rfl
section
variable {e : En} {S : Sto} {Q : R → En → Sto → Prop} {F : Fl → En → Sto → Prop} {r : R}
theorem gtName_eq {i : Nat} {d : D} (h : i < e.length) : gtName i d e = some (e.set i (some (.d d))) := if_pos h
theorem gtCons_eq {t : Tgt} {ts : Tgts} {d : D} {ds : List D} : gtCons t ts (d :: ds) e = (t d e).bind fun e1 => ts ds e1 := rfl
theorem gtNil_eq : gtNil [] e = some e := rfl
theorem gtTup_eq {n : Nat} {ts : Tgts} {ds : List D} : gtTup n ts (.tup ds) e = if ds.length = n then ts ds e else none := rfl
theorem look_locE {i : Nat} : look (.loc i) e S = ownQ e[i]? := by
  simp only [look]
  cases e[i]? with
  | none => rfl
  | some s => cases s with
    | none => rfl
    | some s => cases s <;> rfl
theorem look_locC {i : Nat} {a : Option Sl} : look (.loc i) (a :: e) S = ownQ (a :: e)[i]? := look_locE
theorem seqOf_locE {i : Nat} : seqOf (.loc i) e S = seqL (look (.loc i) e S) := by
  unfold seqOf seqL
  show (match look (.loc i) e S with | some (.lst ds) => some ds | _ => none) = _
  cases look (.loc i) e S with
  | none => rfl
  | some o => cases o <;> rfl
theorem seqOf_refE {n : Nat} : seqOf (.d (.ref n)) e S = seqL (S[n]?) := by
  unfold seqOf seqL
  show (match S[n]? with | some (.lst ds) => some ds | _ => none) = _
  cases S[n]? with
  | none => rfl
  | some o => cases o <;> rfl
theorem lstOf_E : lstOf r e S = seqL (look r e S) := by
  unfold lstOf seqL
  cases look r e S with
  | none => rfl
  | some o => cases o <;> rfl
theorem isTy_listE : isTy "list" r e S = isL (look r e S) := by
  unfold isTy
  rw [if_neg (by decide), if_pos rfl]
  cases look r e S with
  | none => rfl
  | some o => cases o <;> rfl
theorem wp_toRt_locE {i : Nat} : Wp (toRt (.loc i)) e S F ↔ ∃ o, look (.loc i) e S = some o ∧ F (.rt (.new o)) e S := by
  constructor
  · rintro ⟨a, e', S', h, q⟩
    obtain ⟨o, h1, h2⟩ := toRt_loc h
    cases h2
    exact ⟨o, look_loc h1, q⟩
  · rintro ⟨o, h, q⟩
    rw [look_locE] at h
    have : e[i]? = some (some (.own o)) := by
      cases h1 : e[i]? with
      | none => rw [h1] at h; cases h
      | some s => cases s with
        | none => rw [h1] at h; cases h
        | some s => cases s <;> rw [h1] at h <;> cases h; rfl
    exact (wp_toRt_loc this).mpr q
theorem own_of {i : Nat} {o : O} (h : look (.loc i) e S = some o) : e[i]? = some (some (.own o)) := by
  rw [look_locE] at h
  cases h1 : e[i]? with
  | none => rw [h1] at h; cases h
  | some s => cases s with
    | none => rw [h1] at h; cases h
    | some s => cases s <;> rw [h1] at h <;> cases h; rfl
theorem toArg_locE {i : Nat} : toArg (.loc i) e = (look (.loc i) e []).map Sl.brw := by
  rw [look_locE]
  simp only [toArg]
  cases e[i]? with
  | none => rfl
  | some s => cases s with
    | none => rfl
    | some s => cases s <;> rfl
theorem wp_toD_locE {i : Nat} : Wp (toD (.loc i)) e S Q ↔ ∃ o, look (.loc i) e S = some o ∧ ∃ d, lock o = some d ∧ Q (.d d) (e.set i (some (.d d))) S := by
  constructor
  · rintro ⟨a, e', S', h, q⟩
    unfold toD at h
    dsimp only at h
    split at h
    · rename_i o ho
      obtain ⟨d, h1, h2⟩ := Option.map_eq_some_iff.mp h
      cases h2
      exact ⟨o, look_loc ho, d, h1, q⟩
    · cases h
  · rintro ⟨o, h, d, hl, q⟩
    refine ⟨_, _, _, ?_, q⟩
    unfold toD
    simp only [own_of h, hl, Option.map_some]
theorem wp_src_locE {i : Nat} {q : Src → En → Sto → Prop} : Wp (srcOf (.loc i)) e S q ↔ ∃ ds, look (.loc i) e S = some (.lst ds) ∧ q ⟨ds, [(.loc i, ds)]⟩ e S := by
  constructor
  · rintro ⟨a, e', S', h, k⟩
    unfold srcOf at h
    dsimp only at h
    split at h
    · rename_i h2; cases h; exact ⟨_, h2, k⟩
    · cases h
  · rintro ⟨ds, h, k⟩
    exact (wp_src_loc (own_of h)).mpr k
theorem wp_ixE (h1 : ∀ ds, r ≠ .d (.tup ds)) (h2 : ∀ s, r ≠ .d (.str s)) {y : D} : Wp (gIx r (.d y)) e S Q ↔ ∃ d, ixO (look r e S) y = some d ∧ Q (.d d) e S := by
  refine wp_map (k := fun d => R.d d) ?_
  have hq : gIx r (.d y) e S = (match look r e S with
    | some (.lst ds) => (match y with
      | .int i => (atD ds i).map fun d => (R.d d, e, S)
      | _ => none)
    | some (.dct kvs) => (keyOf y).bind fun k => (valD kvs k).map fun d => (R.d d, e, S)
    | _ => none) := by
    cases r with
    | d x => cases x <;> first | exact (h1 _ rfl).elim | exact (h2 _ rfl).elim | rfl
    | _ => rfl
  rw [hq]
  cases look r e S with
  | none => rfl
  | some o => cases o with
    | lst ds => cases y <;> rfl
    | dct kvs =>
      simp only [ixO]
      cases keyOf y <;> rfl
    | kd kvs => cases y <;> rfl
    | tab q => cases y <;> rfl
    | ins _ _ _ => cases y <;> rfl
    | kx _ => cases y <;> rfl
theorem wp_ix_locC {i : Nat} {y : D} : Wp (gIx (.loc i) (.d y)) e S Q ↔ ∃ d, ixO (look (.loc i) e S) y = some d ∧ Q (.d d) e S := wp_ixE (by intro _ h; cases h) (by intro _ h; cases h)
theorem wp_ix_refC {i : Nat} {y : D} : Wp (gIx (.d (.ref i)) (.d y)) e S Q ↔ ∃ d, ixO S[i]? y = some d ∧ Q (.d d) e S := wp_ixE (by intro _ h; cases h) (by intro _ h; cases h)
theorem wp_ix_newC {o : O} {y : D} : Wp (gIx (.new o) (.d y)) e S Q ↔ ∃ d, ixO (some o) y = some d ∧ Q (.d d) e S := wp_ixE (by intro _ h; cases h) (by intro _ h; cases h)
theorem wp_ix_brwC {o : O} {y : D} : Wp (gIx (.brw o) (.d y)) e S Q ↔ ∃ d, ixO (some o) y = some d ∧ Q (.d d) e S := wp_ixE (by intro _ h; cases h) (by intro _ h; cases h)
theorem wp_slE (h1 : ∀ ds, r ≠ .d (.tup ds)) (h2 : ∀ s, r ≠ .d (.str s)) {lo hi : Option Int} : Wp (gSl r lo hi) e S Q ↔ ∃ ds, seqL (look r e S) = some ds ∧ Q (.new (.lst (cutD ds lo hi))) e S := by
  refine wp_map (k := fun ds => R.new (.lst (cutD ds lo hi))) ?_
  have : gSl r lo hi e S = (match look r e S with
    | some (.lst ds) => some (R.new (.lst (cutD ds lo hi)), e, S)
    | _ => none) := by
    cases r with
    | d x => cases x <;> first | exact (h1 _ rfl).elim | exact (h2 _ rfl).elim | rfl
    | _ => rfl
  rw [this]
  cases look r e S with
  | none => rfl
  | some o => cases o <;> rfl
theorem wp_sl_locC {i : Nat} {lo hi : Option Int} : Wp (gSl (.loc i) lo hi) e S Q ↔ ∃ ds, seqL (look (.loc i) e S) = some ds ∧ Q (.new (.lst (cutD ds lo hi))) e S := wp_slE (by intro _ h; cases h) (by intro _ h; cases h)
theorem wp_sl_refC {i : Nat} {lo hi : Option Int} : Wp (gSl (.d (.ref i)) lo hi) e S Q ↔ ∃ ds, seqL S[i]? = some ds ∧ Q (.new (.lst (cutD ds lo hi))) e S := wp_slE (by intro _ h; cases h) (by intro _ h; cases h)
theorem wp_sl_newC {o : O} {lo hi : Option Int} : Wp (gSl (.new o) lo hi) e S Q ↔ ∃ ds, seqL (some o) = some ds ∧ Q (.new (.lst (cutD ds lo hi))) e S := wp_slE (by intro _ h; cases h) (by intro _ h; cases h)
theorem wp_sl_brwC {o : O} {lo hi : Option Int} : Wp (gSl (.brw o) lo hi) e S Q ↔ ∃ ds, seqL (some o) = some ds ∧ Q (.new (.lst (cutD ds lo hi))) e S := wp_slE (by intro _ h; cases h) (by intro _ h; cases h)
theorem wp_sl_dlC {ds : List D} {lo hi : Option Int} : Wp (gSl (.d (.lst ds)) lo hi) e S Q ↔ Q (.new (.lst (cutD ds lo hi))) e S := wp_sl_lst rfl
theorem wp_len_E (h2 : ∀ s, r ≠ .d (.str s)) : Wp (gLen r) e S Q ↔ ∃ ds, seqOf r e S = some ds ∧ Q (.d (.int ds.length)) e S := by
  refine wp_map (k := fun ds : List D => R.d (.int (ds.length : Nat))) ?_
  cases r with
  | d x => cases x <;> first | exact (h2 _ rfl).elim | rfl
  | _ => rfl
theorem wp_len_locC {i : Nat} : Wp (gLen (.loc i)) e S Q ↔ ∃ ds, seqOf (.loc i) e S = some ds ∧ Q (.d (.int ds.length)) e S := wp_len_E (by intro _ h; cases h)
theorem wp_len_refC {i : Nat} : Wp (gLen (.d (.ref i))) e S Q ↔ ∃ ds, seqOf (.d (.ref i)) e S = some ds ∧ Q (.d (.int ds.length)) e S := wp_len_E (by intro _ h; cases h)
theorem wp_blsE {f : List Bool → Bool} : Wp (gBls f r) e S Q ↔ ∃ ds, lstOf r e S = some ds ∧ ∃ bs, blsOf ds = some bs ∧ Q (.d (.bl (f bs))) e S := by
  constructor
  · rintro ⟨a, e', S', h, q⟩
    obtain ⟨ds, h1, h2⟩ := Option.bind_eq_some_iff.mp h
    obtain ⟨bs, h3, h4⟩ := Option.map_eq_some_iff.mp h2
    cases h4
    exact ⟨ds, h1, bs, h3, q⟩
  · rintro ⟨ds, h1, bs, h2, q⟩
    exact (wp_bls h1 h2).mpr q
theorem wp_dictE : Wp (gDict r) e S Q ↔ ∃ ds, lstOf r e S = some ds ∧ ∃ kvs, prsOf ds = some kvs ∧ Q (.new (.dct (mergeD [] kvs))) e S := by
  constructor
  · rintro ⟨a, e', S', h, q⟩
    obtain ⟨ds, h1, h2⟩ := Option.bind_eq_some_iff.mp h
    obtain ⟨bs, h3, h4⟩ := Option.map_eq_some_iff.mp h2
    cases h4
    exact ⟨ds, h1, bs, h3, q⟩
  · rintro ⟨ds, h1, bs, h2, q⟩
    exact (wp_dict h1 h2).mpr q
theorem wp_appendE {x : D} : Wp (gAppend r [.d x]) e S Q ↔ ∃ ds, look r e S = some (.lst ds) ∧ isW r = true ∧ ds.length < 1000000 ∧ Q (.d .non) (putE r (.lst (ds ++ [x])) e) (putS r (.lst (ds ++ [x])) S) := by
  constructor
  · rintro ⟨a, e', S', h, q⟩
    obtain ⟨ds, y, es, h1, h2, h3, h4⟩ := wrL_eq (show wrL r _ e S = _ from h)
    cases h4
    split at h3
    · cases h3; exact ⟨ds, h1, h2, by assumption, q⟩
    · cases h3
  · rintro ⟨ds, h1, h2, h3, q⟩
    exact (wp_append h1 h2 h3).mpr q
theorem wp_popE : Wp (gPop r []) e S Q ↔ ∃ ds, look r e S = some (.lst ds) ∧ isW r = true ∧ ∃ d, ds[ds.length - 1]? = some d ∧ Q (.d d) (putE r (.lst ds.dropLast) e) (putS r (.lst ds.dropLast) S) := by
  constructor
  · rintro ⟨a, e', S', h, q⟩
    obtain ⟨ds, y, es, h1, h2, h3, h4⟩ := wrL_eq (show wrL r _ e S = _ from h)
    cases h4
    obtain ⟨d, h5, h6⟩ := Option.map_eq_some_iff.mp h3
    cases h6
    exact ⟨ds, h1, h2, d, h5, q⟩
  · rintro ⟨ds, h1, h2, d, h3, q⟩
    exact (wp_wrL h1 h2 (by rw [h3]; rfl)).mpr q
theorem wp_setItE {k : Int} {x : D} : Wp (setIt r (.d (.int k)) x) e S F ↔ ∃ ds, look r e S = some (.lst ds) ∧ isW r = true ∧ ∃ j, ixN ds.length k = some j ∧ F .nx (putE r (.lst (ds.set j x)) e) (putS r (.lst (ds.set j x)) S) := by
  constructor
  · rintro ⟨a, e', S', h, q⟩
    obtain ⟨ds, k', j, h1, h2, h3, h4, h5⟩ := setIt_eq h
    cases h2; cases h5
    exact ⟨ds, h1, h3, j, h4, q⟩
  · rintro ⟨ds, h1, h2, j, h3, q⟩
    exact (wp_setIt h1 h2 h3).mpr q
theorem wp_indexE {x : D} : Wp (gIndex r [.d x]) e S Q ↔ ∃ ds, lstOf r e S = some ds ∧ flat x = true ∧ ds.all flat = true ∧ ∃ j, idxD x ds = some j ∧ Q (.d (.int (j : Nat))) e S := by
  constructor
  · rintro ⟨a, e', S', h, q⟩
    obtain ⟨ds, h1, h2⟩ := Option.bind_eq_some_iff.mp (show (lstOf r e S).bind _ = _ from h)
    split at h2
    · rename_i hf
      rw [Bool.and_eq_true] at hf
      obtain ⟨j, h3, h4⟩ := Option.map_eq_some_iff.mp h2
      cases h4
      exact ⟨ds, h1, hf.1, hf.2, j, h3, q⟩
    · cases h2
  · rintro ⟨ds, h1, h2, h3, j, h4, q⟩
    exact (wp_index h1 h2 h3 h4).mpr q
theorem wp_joinE {a : Str} : Wp (gJoin (.d (.str a)) [r]) e S Q ↔ ∃ ds, seqOf r e S = some ds ∧ ∃ ys, strsOf ds = some ys ∧ (ys.map (·.length)).sum + ys.length * a.length ≤ 16777216 ∧ Q (.d (.str (Txt.join a ys))) e S := by
  constructor
  · rintro ⟨z, e', S', h, q⟩
    obtain ⟨ds, h1, h2⟩ := Option.bind_eq_some_iff.mp (show (seqOf r e S).bind _ = _ from h)
    obtain ⟨ys, h3, h4⟩ := Option.bind_eq_some_iff.mp h2
    split at h4
    · cases h4; exact ⟨ds, h1, ys, h3, by assumption, q⟩
    · cases h4
  · rintro ⟨ds, h1, ys, h2, h3, q⟩
    exact (wp_join h1 h2 h3).mpr q
theorem wp_sortedKE : Wp (gSortedK r) e S Q ↔ ∃ kvs, look r e S = some (.dct kvs) ∧ ∃ ks, keysS kvs = some ks ∧ ks.length < 64 ∧ Q (.new (.lst ((srtS ks).map D.str))) e S := by
  constructor
  · rintro ⟨z, e', S', h, q⟩
    unfold gSortedK at h
    split at h
    · obtain ⟨ks, h3, h4⟩ := Option.bind_eq_some_iff.mp h
      split at h4
      · cases h4; exact ⟨_, by assumption, ks, h3, by assumption, q⟩
      · cases h4
    · cases h
  · rintro ⟨kvs, h1, ks, h2, h3, q⟩
    exact (wp_sortedK h1 h2 h3).mpr q
theorem wp_in_tupC {neg : Bool} {x : D} {ds : List D} : Wp (gIn neg (.d x) (.d (.tup ds))) e S Q ↔ datB x = true ∧ datsB ds = true ∧ ∃ b, inF x ds = some b ∧ Q (.d (.bl (b != neg))) e S := by
  rw [wp_inG (by intro _ h; cases h)]
  simp only [seqOf_tup, Option.some.injEq, exists_eq_left']
theorem wp_in_locC {neg : Bool} {x : D} {i : Nat} : Wp (gIn neg (.d x) (.loc i)) e S Q ↔ ∃ ds, seqOf (.loc i) e S = some ds ∧ datB x = true ∧ datsB ds = true ∧ ∃ b, inF x ds = some b ∧ Q (.d (.bl (b != neg))) e S := wp_inG (by intro _ h; cases h)
theorem wp_in_newC {neg : Bool} {x : D} {ds : List D} : Wp (gIn neg (.d x) (.new (.lst ds))) e S Q ↔ datB x = true ∧ datsB ds = true ∧ ∃ b, inF x ds = some b ∧ Q (.d (.bl (b != neg))) e S := by
  rw [wp_inG (by intro _ h; cases h)]
  simp only [seqOf_new, Option.some.injEq, exists_eq_left']
theorem wp_in_brwC {neg : Bool} {x : D} {ds : List D} : Wp (gIn neg (.d x) (.brw (.lst ds))) e S Q ↔ datB x = true ∧ datsB ds = true ∧ ∃ b, inF x ds = some b ∧ Q (.d (.bl (b != neg))) e S := by
  rw [wp_inG (by intro _ h; cases h)]
  simp only [seqOf_brw, Option.some.injEq, exists_eq_left']
theorem wp_in_dlC {neg : Bool} {x : D} {ds : List D} : Wp (gIn neg (.d x) (.d (.lst ds))) e S Q ↔ datB x = true ∧ datsB ds = true ∧ ∃ b, inF x ds = some b ∧ Q (.d (.bl (b != neg))) e S := by
  rw [wp_inG (by intro _ h; cases h)]
  simp only [seqOf_lst, Option.some.injEq, exists_eq_left']
theorem datB_non : datB .non = true := rfl
theorem datB_bl {b : Bool} : datB (.bl b) = true := rfl
theorem datB_int {i : Int} : datB (.int i) = true := rfl
theorem datB_str {x : Str} : datB (.str x) = true := rfl
theorem datB_tup {ds : List D} : datB (.tup ds) = datsB ds := by simp only [datB]
theorem datB_lst {ds : List D} : datB (.lst ds) = datsB ds := by simp only [datB]
theorem datB_dic {ks : List Key} {ds : List D} : datB (.dic ks ds) = datsB ds := by simp only [datB]
theorem datsB_nil : datsB [] = true := rfl
theorem datsB_cons {d : D} {ds : List D} : datsB (d :: ds) = (datB d && datsB ds) := by simp only [datsB]
theorem datsB_strs {xs : List Str} : datsB (xs.map D.str) = true := by rw [datsB_all]; simp [datB]
theorem datsB_ints {xs : List Int} : datsB (xs.map D.int) = true := by rw [datsB_all]; simp [datB]
theorem flats_strs {xs : List Str} : (xs.map D.str).all flat = true := by simp [flat]
theorem flats_ints {xs : List Int} : (xs.map D.int).all flat = true := by simp [flat]
theorem flat_int {i : Int} : flat (.int i) = true := rfl
theorem flat_str {x : Str} : flat (.str x) = true := rfl
theorem flat_bl {b : Bool} : flat (.bl b) = true := rfl
theorem flat_non : flat .non = true := rfl
def srcV : R → En → Sto → Option Src
  | .d (.tup ds), _, _ => some ⟨ds, []⟩
  | .d (.lst ds), _, _ => some ⟨ds, []⟩
  | .new (.lst ds), _, _ => some ⟨ds, []⟩
  | .brw (.lst ds), _, _ => some ⟨ds, []⟩
  | .loc i, e, S => (seqL (look (.loc i) e S)).map fun ds => ⟨ds, [(.loc i, ds)]⟩
  | _, _, _ => none
end
end G

set_option Elab.async false
set_option linter.all false
set_option maxRecDepth 100000
set_option maxHeartbeats 4000000
/-! GV: the calculus in one bundle. -/
namespace G
variable [Wld]
open PySem PySem.Spec PyProof.Rows L2
section
variable {e : En} {S : Sto} {Q : R → En → Sto → Prop}
theorem wp_repr {r : R} : Wp (gRepr r) e S Q ↔ ∃ x, dat r e S = some x ∧ ∃ t, shownD x = some t ∧ Q (.d (.str t)) e S := by
  constructor
  · rintro ⟨a, e', S', h, q⟩
    obtain ⟨x, h1, h2⟩ := Option.bind_eq_some_iff.mp (show (dat r e S).bind _ = _ from h)
    obtain ⟨t, h3, h4⟩ := Option.map_eq_some_iff.mp h2
    cases h4
    exact ⟨x, h1, t, h3, q⟩
  · rintro ⟨x, h1, t, h2, q⟩
    exact ⟨_, _, _, by unfold gRepr; rw [h1]; simp [h2], q⟩
theorem wp_add_tup {xs ys : List D} : Wp (gAdd (.d (.tup xs)) (.d (.tup ys))) e S Q ↔ xs.length + ys.length ≤ 1000000 ∧ Q (.d (.tup (xs ++ ys))) e S := by
  unfold Wp gAdd
  by_cases h : xs.length + ys.length ≤ 1000000
  · simp only [if_pos h]; exact ⟨fun ⟨_, _, _, h1, q⟩ => by cases h1; exact ⟨h, q⟩, fun q => ⟨_, _, _, rfl, q.2⟩⟩
  · simp only [if_neg h]; exact ⟨fun ⟨_, _, _, h1, q⟩ => (nomatch h1), fun q => (h q.1).elim⟩
theorem wp_upper {x : Str} : Wp (gUpper (.d (.str x)) []) e S Q ↔ x.length ≤ 1000000 ∧ Q (.d (.str (Txt.upper x))) e S := by
  unfold Wp gUpper
  by_cases h : x.length ≤ 1000000
  · simp only [if_pos h]; exact ⟨fun ⟨_, _, _, h1, q⟩ => by cases h1; exact ⟨h, q⟩, fun q => ⟨_, _, _, rfl, q.2⟩⟩
  · simp only [if_neg h]; exact ⟨fun ⟨_, _, _, h1, q⟩ => (nomatch h1), fun q => (h q.1).elim⟩
theorem wp_addG {rx ry : R} (hn : ∀ x y, rx = .d x → ry = .d y → False) : Wp (gAdd rx ry) e S Q ↔ ∃ xs, look rx e S = some (.lst xs) ∧ ∃ ys, look ry e S = some (.lst ys) ∧ notLst rx = true ∧ notLst ry = true ∧ xs.length + ys.length ≤ 1000000 ∧ Q (.new (.lst (xs ++ ys))) e S := by
  have hq : gAdd rx ry e S = (match look rx e S, look ry e S with
    | some (.lst xs), some (.lst ys) => if notLst rx && notLst ry && decide (xs.length + ys.length ≤ 1000000) then some (R.new (.lst (xs ++ ys)), e, S) else none
    | _, _ => none) := by
    cases rx with
    | d x => cases ry with
      | d y => exact (hn x y rfl rfl).elim
      | _ => cases x <;> rfl
    | _ => rfl
  unfold Wp
  rw [hq]
  constructor
  · rintro ⟨a, e', S', h, q⟩
    split at h
    · rename_i xs ys h1 h2
      split at h
      · rename_i hc
        cases h
        simp only [Bool.and_eq_true, decide_eq_true_eq] at hc
        exact ⟨xs, h1, ys, h2, hc.1.1, hc.1.2, hc.2, q⟩
      · cases h
    · cases h
  · rintro ⟨xs, h1, ys, h2, h3, h4, h5, q⟩
    exact ⟨_, _, _, by rw [h1, h2]; simp [h3, h4, h5], q⟩
theorem wp_add_nn {xs ys : List D} : Wp (gAdd (.new (.lst xs)) (.new (.lst ys))) e S Q ↔ xs.length + ys.length ≤ 1000000 ∧ Q (.new (.lst (xs ++ ys))) e S := by
  rw [wp_addG (by intro _ _ h; cases h)]
  simp only [look_new, look_brw, Option.some.injEq, O.lst.injEq, exists_eq_left', true_and, notLst]
theorem wp_add_nb {xs ys : List D} : Wp (gAdd (.new (.lst xs)) (.brw (.lst ys))) e S Q ↔ xs.length + ys.length ≤ 1000000 ∧ Q (.new (.lst (xs ++ ys))) e S := by
  rw [wp_addG (by intro _ _ h; cases h)]
  simp only [look_new, look_brw, Option.some.injEq, O.lst.injEq, exists_eq_left', true_and, notLst]
theorem wp_add_bn {xs ys : List D} : Wp (gAdd (.brw (.lst xs)) (.new (.lst ys))) e S Q ↔ xs.length + ys.length ≤ 1000000 ∧ Q (.new (.lst (xs ++ ys))) e S := by
  rw [wp_addG (by intro _ _ h; cases h)]
  simp only [look_new, look_brw, Option.some.injEq, O.lst.injEq, exists_eq_left', true_and, notLst]
theorem wp_add_bb {xs ys : List D} : Wp (gAdd (.brw (.lst xs)) (.brw (.lst ys))) e S Q ↔ xs.length + ys.length ≤ 1000000 ∧ Q (.new (.lst (xs ++ ys))) e S := by
  rw [wp_addG (by intro _ _ h; cases h)]
  simp only [look_new, look_brw, Option.some.injEq, O.lst.injEq, exists_eq_left', true_and, notLst]
theorem wp_add_ln {i : Nat} {ys : List D} : Wp (gAdd (.loc i) (.new (.lst ys))) e S Q ↔ ∃ xs, look (.loc i) e S = some (.lst xs) ∧ xs.length + ys.length ≤ 1000000 ∧ Q (.new (.lst (xs ++ ys))) e S := by
  rw [wp_addG (by intro _ _ h; cases h)]
  simp only [look_new, look_brw, Option.some.injEq, O.lst.injEq, exists_eq_left', true_and, notLst]
theorem wp_add_lb {i : Nat} {ys : List D} : Wp (gAdd (.loc i) (.brw (.lst ys))) e S Q ↔ ∃ xs, look (.loc i) e S = some (.lst xs) ∧ xs.length + ys.length ≤ 1000000 ∧ Q (.new (.lst (xs ++ ys))) e S := by
  rw [wp_addG (by intro _ _ h; cases h)]
  simp only [look_new, look_brw, Option.some.injEq, O.lst.injEq, exists_eq_left', true_and, notLst]
theorem wp_add_ll {i j : Nat} : Wp (gAdd (.loc i) (.loc j)) e S Q ↔ ∃ xs, look (.loc i) e S = some (.lst xs) ∧ ∃ ys, look (.loc j) e S = some (.lst ys) ∧ xs.length + ys.length ≤ 1000000 ∧ Q (.new (.lst (xs ++ ys))) e S := by
  rw [wp_addG (by intro _ _ h; cases h)]
  simp only [true_and, notLst]
theorem wp_add_nl {j : Nat} {xs : List D} : Wp (gAdd (.new (.lst xs)) (.loc j)) e S Q ↔ ∃ ys, look (.loc j) e S = some (.lst ys) ∧ xs.length + ys.length ≤ 1000000 ∧ Q (.new (.lst (xs ++ ys))) e S := by
  rw [wp_addG (by intro _ _ h; cases h)]
  simp only [look_new, look_brw, Option.some.injEq, O.lst.injEq, exists_eq_left', true_and, notLst]
theorem wp_add_bl {j : Nat} {xs : List D} : Wp (gAdd (.brw (.lst xs)) (.loc j)) e S Q ↔ ∃ ys, look (.loc j) e S = some (.lst ys) ∧ xs.length + ys.length ≤ 1000000 ∧ Q (.new (.lst (xs ++ ys))) e S := by
  rw [wp_addG (by intro _ _ h; cases h)]
  simp only [look_new, look_brw, Option.some.injEq, O.lst.injEq, exists_eq_left', true_and, notLst]
theorem wp_add_bi {a : Bool} {j : Int} : Wp (gAdd (.d (.bl a)) (.d (.int j))) e S Q ↔ Q (.d (.int ((if a = true then 1 else 0) + j))) e S := wp_some rfl
theorem dSub_bi {a : Bool} {j : Int} : dSub (.bl a) (.int j) = some (.int ((if a = true then 1 else 0) - j)) := rfl
theorem dSub_ib {i : Int} {b : Bool} : dSub (.int i) (.bl b) = some (.int (i - if b = true then 1 else 0)) := rfl
theorem wp_mDn : Wp mDn e S Q ↔ Q (.new (.dct [])) e S := wp_pur
theorem wp_toD_dct {kvs : List (Key × D)} : Wp (toD (.new (.dct kvs))) e S Q ↔ Q (.d (.dic (kvs.map (·.1)) (kvs.map (·.2)))) e S := wp_some rfl
theorem wp_str1 {x : Str} : Wp (gStr (.d (.str x))) e S Q ↔ Q (.d (.str x)) e S := wp_some rfl
end
theorem ev0 : type_of% (And.intro @wp_mSeq (And.intro @wp_mSet (And.intro @wp_mC (And.intro @wp_setS_d (And.intro @wp_setS_new (And.intro @seQ_nx (And.intro @seQ_rt (And.intro @seQ_bk (And.intro @seQ_ct (And.intro @lpQ_nx (And.intro @lpQ_ct (And.intro @lpQ_bk (And.intro @lpQ_rt (And.intro @flQ_rt (And.intro @flQ_nx (And.intro @flQ_bk (And.intro @flQ_ct (And.intro @wp_mFor (And.intro @wp_mSrc (And.intro @wp_mSl (And.intro @wp_pur (And.intro @wp_bnd (And.intro @wp_asI (And.intro @wp_mVarC (And.intro @varQ_d (And.intro @varQ_own (And.intro @varQ_brw (And.intro @wp_gP (And.intro @wp_add_int (And.intro @wp_mBin (And.intro @wp_mUn (And.intro @wp_neg (And.intro @wp_mRet (And.intro @wp_mBox (And.intro @wp_mLst (And.intro @wp_mTup (And.intro @wp_mCons (And.intro @wp_mNil (And.intro @wp_mLc @wp_src_tup))))))))))))))))))))))))))))))))))))))) := (And.intro @wp_mSeq (And.intro @wp_mSet (And.intro @wp_mC (And.intro @wp_setS_d (And.intro @wp_setS_new (And.intro @seQ_nx (And.intro @seQ_rt (And.intro @seQ_bk (And.intro @seQ_ct (And.intro @lpQ_nx (And.intro @lpQ_ct (And.intro @lpQ_bk (And.intro @lpQ_rt (And.intro @flQ_rt (And.intro @flQ_nx (And.intro @flQ_bk (And.intro @flQ_ct (And.intro @wp_mFor (And.intro @wp_mSrc (And.intro @wp_mSl (And.intro @wp_pur (And.intro @wp_bnd (And.intro @wp_asI (And.intro @wp_mVarC (And.intro @varQ_d (And.intro @varQ_own (And.intro @varQ_brw (And.intro @wp_gP (And.intro @wp_add_int (And.intro @wp_mBin (And.intro @wp_mUn (And.intro @wp_neg (And.intro @wp_mRet (And.intro @wp_mBox (And.intro @wp_mLst (And.intro @wp_mTup (And.intro @wp_mCons (And.intro @wp_mNil (And.intro @wp_mLc @wp_src_tup)))))))))))))))))))))))))))))))))))))))
theorem ev1 : type_of% (And.intro @wp_src_lst (And.intro @wp_src_new (And.intro @wp_src_brw (And.intro @wipeE_cons (And.intro @wipeE_nil (And.intro @wp_toBox (And.intro @dsOf_cons (And.intro @dsOf_nil (And.intro @wp_toRt_d (And.intro @wp_toRt_new (And.intro @wp_mIf (And.intro @wp_mIfS (And.intro @wp_mNot (And.intro @wp_mAnd (And.intro @wp_mOr (And.intro @wp_mAndV (And.intro @wp_mOrV (And.intro @wp_mNotV (And.intro @wp_asB (And.intro @wp_mSkip (And.intro @wp_mDrop (And.intro @wp_mRetN (And.intro @wp_mSetI (And.intro @wp_mAsg (And.intro @wp_mPar2 (And.intro @wp_mPar3 (And.intro @wp_mCall (And.intro @toArgs_nil (And.intro @toArgs_cons (And.intro @toArg_d (And.intro @toArg_new (And.intro @toArg_brw (And.intro @r_d (And.intro @r_new (And.intro @g1_one (And.intro @wp_len_str (And.intro @wp_int_int (And.intro @wp_int_bl (And.intro @wp_add_str @wp_eq_int))))))))))))))))))))))))))))))))))))))) := (And.intro @wp_src_lst (And.intro @wp_src_new (And.intro @wp_src_brw (And.intro @wipeE_cons (And.intro @wipeE_nil (And.intro @wp_toBox (And.intro @dsOf_cons (And.intro @dsOf_nil (And.intro @wp_toRt_d (And.intro @wp_toRt_new (And.intro @wp_mIf (And.intro @wp_mIfS (And.intro @wp_mNot (And.intro @wp_mAnd (And.intro @wp_mOr (And.intro @wp_mAndV (And.intro @wp_mOrV (And.intro @wp_mNotV (And.intro @wp_asB (And.intro @wp_mSkip (And.intro @wp_mDrop (And.intro @wp_mRetN (And.intro @wp_mSetI (And.intro @wp_mAsg (And.intro @wp_mPar2 (And.intro @wp_mPar3 (And.intro @wp_mCall (And.intro @toArgs_nil (And.intro @toArgs_cons (And.intro @toArg_d (And.intro @toArg_new (And.intro @toArg_brw (And.intro @r_d (And.intro @r_new (And.intro @g1_one (And.intro @wp_len_str (And.intro @wp_int_int (And.intro @wp_int_bl (And.intro @wp_add_str @wp_eq_int)))))))))))))))))))))))))))))))))))))))
theorem ev2 : type_of% (And.intro @wp_eq_str (And.intro @wp_eq_bl (And.intro @dSub_int (And.intro @dLt_int (And.intro @dLe_int (And.intro @wp_mMth (And.intro @isTy_str (And.intro @putE_loc (And.intro @putE_ref (And.intro @putS_loc (And.intro @putS_ref (And.intro @isW_loc (And.intro @isW_ref (And.intro @look_new (And.intro @look_brw (And.intro @look_dl (And.intro @look_ref (And.intro @wp_sl_tup (And.intro @wp_mStar (And.intro @wp_mIsi (And.intro @wp_gIsN (And.intro @atD_0 (And.intro @atD_1 (And.intro @atD_2 (And.intro @atD_3 (And.intro @atD_4 (And.intro @wp_ix_tup (And.intro @wp_ix_new (And.intro @wp_ix_brw (And.intro @wp_ix_dl (And.intro @wp_mD (And.intro @wp_toD_d (And.intro @wp_toD_new (And.intro @wp_srcR1 (And.intro @wp_srcStr (And.intro @wp_len_tup (And.intro @wp_len_lst (And.intro @wp_len_new (And.intro @wp_len_brw @look_locC))))))))))))))))))))))))))))))))))))))) := (And.intro @wp_eq_str (And.intro @wp_eq_bl (And.intro @dSub_int (And.intro @dLt_int (And.intro @dLe_int (And.intro @wp_mMth (And.intro @isTy_str (And.intro @putE_loc (And.intro @putE_ref (And.intro @putS_loc (And.intro @putS_ref (And.intro @isW_loc (And.intro @isW_ref (And.intro @look_new (And.intro @look_brw (And.intro @look_dl (And.intro @look_ref (And.intro @wp_sl_tup (And.intro @wp_mStar (And.intro @wp_mIsi (And.intro @wp_gIsN (And.intro @atD_0 (And.intro @atD_1 (And.intro @atD_2 (And.intro @atD_3 (And.intro @atD_4 (And.intro @wp_ix_tup (And.intro @wp_ix_new (And.intro @wp_ix_brw (And.intro @wp_ix_dl (And.intro @wp_mD (And.intro @wp_toD_d (And.intro @wp_toD_new (And.intro @wp_srcR1 (And.intro @wp_srcStr (And.intro @wp_len_tup (And.intro @wp_len_lst (And.intro @wp_len_new (And.intro @wp_len_brw @look_locC)))))))))))))))))))))))))))))))))))))))
theorem ev3 : type_of% (And.intro @ownQ_own (And.intro @seqL_lst (And.intro @isL_lst (And.intro @ixO_lst (And.intro @ixO_dct_int (And.intro @ixO_dct_str (And.intro @lock_lst (And.intro @seqOf_tup (And.intro @seqOf_lst (And.intro @seqOf_new (And.intro @seqOf_brw (And.intro @seqOf_locE (And.intro @seqOf_refE (And.intro @lstOf_E (And.intro @isTy_listE (And.intro @wp_toRt_locE (And.intro @toArg_locE (And.intro @wp_toD_locE (And.intro @wp_src_locE (And.intro @wp_ix_locC (And.intro @wp_ix_newC (And.intro @wp_ix_brwC (And.intro @wp_sl_locC (And.intro @wp_sl_refC (And.intro @wp_sl_newC (And.intro @wp_sl_brwC (And.intro @wp_sl_dlC (And.intro @wp_len_locC (And.intro @wp_len_refC (And.intro @wp_blsE (And.intro @wp_dictE (And.intro @wp_appendE (And.intro @wp_popE (And.intro @wp_indexE (And.intro @wp_joinE (And.intro @wp_sortedKE (And.intro @wp_in_tupC (And.intro @wp_in_locC (And.intro @wp_in_newC @wp_in_dlC))))))))))))))))))))))))))))))))))))))) := (And.intro @ownQ_own (And.intro @seqL_lst (And.intro @isL_lst (And.intro @ixO_lst (And.intro @ixO_dct_int (And.intro @ixO_dct_str (And.intro @lock_lst (And.intro @seqOf_tup (And.intro @seqOf_lst (And.intro @seqOf_new (And.intro @seqOf_brw (And.intro @seqOf_locE (And.intro @seqOf_refE (And.intro @lstOf_E (And.intro @isTy_listE (And.intro @wp_toRt_locE (And.intro @toArg_locE (And.intro @wp_toD_locE (And.intro @wp_src_locE (And.intro @wp_ix_locC (And.intro @wp_ix_newC (And.intro @wp_ix_brwC (And.intro @wp_sl_locC (And.intro @wp_sl_refC (And.intro @wp_sl_newC (And.intro @wp_sl_brwC (And.intro @wp_sl_dlC (And.intro @wp_len_locC (And.intro @wp_len_refC (And.intro @wp_blsE (And.intro @wp_dictE (And.intro @wp_appendE (And.intro @wp_popE (And.intro @wp_indexE (And.intro @wp_joinE (And.intro @wp_sortedKE (And.intro @wp_in_tupC (And.intro @wp_in_locC (And.intro @wp_in_newC @wp_in_dlC)))))))))))))))))))))))))))))))))))))))
theorem ev4 : type_of% (And.intro @wp_tuple (And.intro @wp_list (And.intro @gtName_eq (And.intro @gtCons_eq (And.intro @gtNil_eq (And.intro @gtTup_eq (And.intro @O.lst.injEq (And.intro @O.dct.injEq (And.intro @flat_int (And.intro @flat_str (And.intro @flat_bl (And.intro @flat_non (And.intro @Bool.and_self (And.intro @Bool.false_eq_true (And.intro @true_and (And.intro @and_true (And.intro @R.d.injEq (And.intro @D.bl.injEq (And.intro @D.int.injEq (And.intro @D.str.injEq (And.intro @Bool.bne_false (And.intro @Bool.bne_true (And.intro @Bool.not_true (And.intro @Bool.not_false (And.intro @datB_non (And.intro @datB_bl (And.intro @datB_int (And.intro @datB_str (And.intro @datB_tup (And.intro @datB_lst (And.intro @datB_dic (And.intro @datsB_nil (And.intro @datsB_cons (And.intro @datsB_strs (And.intro @datsB_ints (And.intro @inF_flat (And.intro @wp_in_brwC (And.intro @flats_strs (And.intro @flats_ints @wp_repr))))))))))))))))))))))))))))))))))))))) := (And.intro @wp_tuple (And.intro @wp_list (And.intro @gtName_eq (And.intro @gtCons_eq (And.intro @gtNil_eq (And.intro @gtTup_eq (And.intro @O.lst.injEq (And.intro @O.dct.injEq (And.intro @flat_int (And.intro @flat_str (And.intro @flat_bl (And.intro @flat_non (And.intro @Bool.and_self (And.intro @Bool.false_eq_true (And.intro @true_and (And.intro @and_true (And.intro @R.d.injEq (And.intro @D.bl.injEq (And.intro @D.int.injEq (And.intro @D.str.injEq (And.intro @Bool.bne_false (And.intro @Bool.bne_true (And.intro @Bool.not_true (And.intro @Bool.not_false (And.intro @datB_non (And.intro @datB_bl (And.intro @datB_int (And.intro @datB_str (And.intro @datB_tup (And.intro @datB_lst (And.intro @datB_dic (And.intro @datsB_nil (And.intro @datsB_cons (And.intro @datsB_strs (And.intro @datsB_ints (And.intro @inF_flat (And.intro @wp_in_brwC (And.intro @flats_strs (And.intro @flats_ints @wp_repr)))))))))))))))))))))))))))))))))))))))
theorem ev5 : type_of% (And.intro @wp_str1 (And.intro @wp_add_tup (And.intro @wp_upper (And.intro @wp_add_nn (And.intro @wp_add_nb (And.intro @wp_add_bn (And.intro @wp_add_bb (And.intro @wp_add_ln (And.intro @wp_add_nl (And.intro @wp_add_ll (And.intro @wp_add_lb (And.intro @wp_add_bl (And.intro @wp_mDn (And.intro @wp_toD_dct (And.intro @wp_add_bi (And.intro @dSub_bi @dSub_ib)))))))))))))))) := (And.intro @wp_str1 (And.intro @wp_add_tup (And.intro @wp_upper (And.intro @wp_add_nn (And.intro @wp_add_nb (And.intro @wp_add_bn (And.intro @wp_add_bb (And.intro @wp_add_ln (And.intro @wp_add_nl (And.intro @wp_add_ll (And.intro @wp_add_lb (And.intro @wp_add_bl (And.intro @wp_mDn (And.intro @wp_toD_dct (And.intro @wp_add_bi (And.intro @dSub_bi @dSub_ib))))))))))))))))
end G

set_option Elab.async false
set_option linter.all false
set_option maxRecDepth 1000000
set_option maxHeartbeats 4000000
/-! GN: tables of the written part; a local that holds a def; two defs that call each other. -/
namespace G
variable [Wld]
open PySem PySem.Spec PyProof.Rows L2
/-- a table of the text: keys that are texts -/
def TabAt (K : PySem.W.Frag) (d : Addr) (tb : List (Str × D)) : Prop := ∀ z, match tb.lookup z with
  | some x => ∃ u v, PySem.W.nsIn K d z = some (some u) ∧ RelV v u ∧ ∀ H ι, RD K H ι v x
  | none => PySem.W.nsIn K d z = some none
structure KTab (K : PySem.W.Frag) (w : World) (d : Addr) (tb : List (Str × D)) : Prop where
  dd : ∃ es n, KDict K w d es n
  at_ : TabAt K d tb
def gInT (neg : Bool) (d : Addr) (tb : List (Str × D)) (rx ry : R) : M R := match rx, ry with
  | .d (.str z), .d (.fn a) => if a = d then pur (.d (.bl ((tb.lookup z).isSome != neg))) else stk
  | _, _ => stk
def gIxT (d : Addr) (tb : List (Str × D)) (rx ry : R) : M R := match rx, ry with
  | .d (.fn a), .d (.str z) => if a = d then (match tb.lookup z with
    | some x => pur (.d x)
    | none => stk) else stk
  | _, _ => stk
section
variable {X : Cx} {d : Addr} {tb : List (Str × D)}
theorem gIxT_eq {rx ry : R} {e : En} {S : Sto} {z : R × En × Sto} (h : gIxT d tb rx ry e S = some z) : ∃ t x, rx = .d (.fn d) ∧ ry = .d (.str t) ∧ tb.lookup t = some x ∧ z = (.d x, e, S) := by
  cases rx with
  | d x =>
    cases x with
    | fn a =>
      cases ry with
      | d y =>
        cases y with
        | str t =>
          simp only [gIxT] at h
          by_cases ha : a = d
          · rw [if_pos ha] at h
            cases hx : tb.lookup t with
            | none => rw [hx] at h; cases h
            | some x => rw [hx] at h; cases h; exact ⟨t, x, by rw [ha], rfl, hx, rfl⟩
          · rw [if_neg ha] at h; cases h
        | _ => cases h
      | _ => cases h
    | _ => cases h
  | _ => cases h
end
/-! ### the facts of the written part -/
theorem findK {P : Params} : ∀ {es : List DictEntry} {ks : List Str} {us : List Value}, es.map He.keyOf = He.keysIn P ks → es.map (·.val) = us → ∀ z, (match es.find? (·.key.isStr z) with
      | some e => some (some e.val)
      | none => if es.any (·.refKey) then none else some none) = some ((ks.zip us).lookup z)
  | [], [], _, _, h, z => by subst h; rfl
  | [], _ :: _, _, h, _, _ => by cases h
  | _ :: _, [], _, h, _, _ => by cases h
  | e :: es, k :: ks, us, h1, h2, z => by
    subst h2
    have h3 : He.keyOf e :: es.map He.keyOf = some (k, PyData.keyHash P k) :: He.keysIn P ks := h1
    injection h3 with h4 h5
    have ih := findK h5 rfl z
    unfold He.keyOf at h4
    split at h4
    · rename_i x t q
      have h6 := (Prod.mk.inj (Option.some.inj h4)).1
      subst h6
      have e1 : e.key.isStr z = (x == z) := by rw [q]; rfl
      have e2 : e.refKey = false := by unfold DictEntry.refKey; rw [q]
      cases hz : x == z with
      | true =>
        have : (z == x) = true := by rw [beq_iff_eq] at hz ⊢; exact hz.symm
        simp only [List.find?, e1, hz, List.map_cons, List.zip_cons_cons, List.lookup, this]
      | false =>
        have : (z == x) = false := by rw [beq_eq_false_iff_ne] at hz ⊢; exact fun h => hz h.symm
        simp only [List.find?, e1, hz, List.map_cons, List.zip_cons_cons, List.lookup, this, List.any_cons, e2, Bool.false_or]
        exact ih
    · cases h4
theorem KTab.mk' {K : PySem.W.Frag} {w : World} {d : Addr} {es : Array DictEntry} {n : Nat} {ks : List Str} {us : List Value} {vs : List V} {ds : List D}
    (hl : K.lookup d = some ⟨.type "dict", none, .dict es n, #[]⟩) (fk : es.toList.map He.keyOf = He.keysIn w.params ks) (fv : es.toList.map (·.val) = us) (hs : (d == sysModules) = false)
    (hr : Vals vs us) (hd : ∀ H ι, RDs K H ι vs ds) : KTab K w d (ks.zip ds) := by
  refine ⟨⟨es, n, hl, He.keysLit_of fk, hs⟩, fun z => ?_⟩
  have e : PySem.W.nsIn K d z = some ((ks.zip us).lookup z) := by
    unfold PySem.W.nsIn
    rw [hl]
    exact findK fk fv z
  rw [e]
  clear e fk fv hl
  have hd0 := hd
  induction ks generalizing us vs ds with
  | nil => rfl
  | cons k ks ih =>
    cases hr with
    | nil =>
      cases ds with
      | nil => rfl
      | cons d ds => have := hd (fun _ => none) []; cases this
    | cons r rs =>
      cases ds with
      | nil => have := hd (fun _ => none) []; cases this
      | cons d ds =>
        cases hz : z == k with
        | true =>
          simp only [List.zip_cons_cons, List.lookup, hz]
          exact ⟨_, _, rfl, r, fun H ι => by have := hd H ι; cases this; assumption⟩
        | false =>
          simp only [List.zip_cons_cons, List.lookup, hz]
          exact ih rs (fun H ι => by have := hd H ι; cases this; assumption) (fun H ι => by have := hd H ι; cases this; assumption)
/-! ### a local that holds a def -/
structure GFA (P : Program) (w : World) (K : PySem.W.Frag) (mg : Str → Option Value) (base : Heap) (k : Nat) (a : Addr) (n : Nat) (m : Fn) : Prop where
  ex : ∃ fd ps, FnG P w K mg base k a fd ps (spG K n m) ∧ PySem.W.keepIn K (.ref a) = true ∧ Binds K fd ps []
theorem GF.at_ {P : Program} {w : World} {K : PySem.W.Frag} {mg : Str → Option Value} {base : Heap} {j k : Nat} {x : Str} {n : Nat} {m : Fn} {a : Addr} (F : GF P w K mg base j x n m) (h : mg x = some (.ref a)) (hj : j ≤ k) : GFA P w K mg base k a n m := by
  obtain ⟨f, fd, ps, ok, hm, hk, hb⟩ := F.ex
  cases h.symm.trans hm
  exact ⟨fd, ps, ok.mono hj, hk, hb⟩
def mCallL (i n : Nat) (tb : List (Addr × Fn)) (ms : M (List R)) : M R := fun e S => match e[i]? with
  | some (some (.d (.fn a))) => (match tb.lookup a with
    | some f => mCall n f ms e S
    | none => none)
  | _ => none
theorem lookup_mem {α β : Type} [BEq α] [LawfulBEq α] {a : α} {b : β} : ∀ {l : List (α × β)}, l.lookup a = some b → (a, b) ∈ l
  | (x, y) :: l, h => by
    unfold List.lookup at h
    split at h
    · rename_i hx
      cases h
      rw [beq_iff_eq.mp hx]
      exact List.mem_cons_self ..
    · exact List.mem_cons_of_mem _ (lookup_mem h)
/-! ### two defs that call each other: the first by depth, the second from the first -/
end G

set_option Elab.async false
set_option linter.all false
set_option maxRecDepth 100000
set_option maxHeartbeats 4000000
/-! GM: the calculus of GN. -/
namespace G
variable [Wld]
open PySem PySem.Spec PyProof.Rows L2
section
variable {e : En} {S : Sto} {Q : R → En → Sto → Prop}
theorem wp_inT {neg : Bool} {d a : Addr} {tb : List (Str × D)} {z : Str} : Wp (gInT neg d tb (.d (.str z)) (.d (.fn a))) e S Q ↔ a = d ∧ Q (.d (.bl ((tb.lookup z).isSome != neg))) e S := by
  unfold Wp gInT
  by_cases h : a = d
  · simp only [if_pos h]; exact ⟨fun ⟨_, _, _, h1, q⟩ => by cases h1; exact ⟨h, q⟩, fun q => ⟨_, _, _, rfl, q.2⟩⟩
  · simp only [if_neg h]; exact ⟨fun ⟨_, _, _, h1, q⟩ => (nomatch h1), fun q => (h q.1).elim⟩
theorem wp_ixT {d a : Addr} {tb : List (Str × D)} {z : Str} : Wp (gIxT d tb (.d (.fn a)) (.d (.str z))) e S Q ↔ a = d ∧ ∃ x, tb.lookup z = some x ∧ Q (.d x) e S := by
  constructor
  · rintro ⟨r, e1, S1, h, q⟩
    obtain ⟨t, x, h1, h2, h3, h4⟩ := gIxT_eq h
    cases h1; cases h2; cases h4
    exact ⟨rfl, x, h3, q⟩
  · rintro ⟨rfl, x, h, q⟩
    exact ⟨_, _, _, by simp only [gIxT, if_true, h]; rfl, q⟩
theorem wp_callL {i n : Nat} {tb : List (Addr × Fn)} {ms : M (List R)} : Wp (mCallL i n tb ms) e S Q ↔ ∃ a, e[i]? = some (some (.d (.fn a))) ∧ ∃ f, tb.lookup a = some f ∧ Wp (mCall n f ms) e S Q := by
  constructor
  · rintro ⟨r, e1, S1, h, q⟩
    unfold mCallL at h
    split at h
    · rename_i a ha
      split at h
      · rename_i f hf
        exact ⟨a, ha, f, hf, r, e1, S1, h, q⟩
      · cases h
    · cases h
  · rintro ⟨a, ha, f, hf, r, e1, S1, h, q⟩
    exact ⟨r, e1, S1, by unfold mCallL; rw [ha]; simp only [hf]; exact h, q⟩
end
theorem ev6 : type_of% (And.intro @wp_inT (And.intro @wp_ixT @wp_callL)) := And.intro @wp_inT (And.intro @wp_ixT @wp_callL)
end G

set_option Elab.async false
set_option linter.all false
set_option maxRecDepth 1000000
set_option maxHeartbeats 4000000
/-! GD: constants that are tuples of texts, displays of dicts, .get, .extend. -/
namespace G
variable [Wld]
open PySem PySem.Spec PyProof.Rows L2
section
variable {X : Cx} {pos : Pos}
/-- a constant of the module, by its data -/
def CstAt (K : PySem.W.Frag) (mg : Str → Option Value) (x : Str) (d : D) : Prop := ∃ u v, mg x = some u ∧ RelV v u ∧ ∀ H ι, RD K H ι v d
/-! ### {'a': 1, ..} -/
def tPc : List (Str × Int) → List (TE × TE)
  | [] => []
  | (k, i) :: r => (tC (.str k), tC (.int i)) :: tPc r
def mDl (kvs : List (Str × Int)) : M R := pur (.new (.dct (kvs.map fun p => (.inr p.1, .int p.2))))
theorem tPairs_c {σ : SV} {H : Hp} : ∀ {kvs : List (Str × Int)} {Q : List (V × V) → Hp → Prop}, Q (kvs.map fun p => (.str p.1, .int p.2)) H → tPairs (tPc kvs) σ H Q
  | [], Q, h => h
  | (k, i) :: r, Q, h => by
    show tPairs (tPc r) σ H fun ps H3 => Q ((.str k, .int i) :: ps) H3
    exact tPairs_c h
theorem mergeK_nodup : ∀ {more kvs : List (Key × V)}, ((kvs ++ more).map (·.1)).Nodup → mergeK kvs more = kvs ++ more
  | [], kvs, _ => by simp [mergeK]
  | p :: r, kvs, h => by
    have e : putK kvs p.1 p.2 = kvs ++ [p] := by
      unfold putK
      have hk : p.1 ∉ kvs.map (·.1) := by
        intro hm
        rw [List.map_append, List.nodup_append] at h
        exact h.2.2 _ hm _ (by simp) rfl
      rw [if_neg]
      intro ha
      obtain ⟨q, hq, he⟩ := List.any_eq_true.mp ha
      exact hk (List.mem_map.mpr ⟨q, hq, by simpa using he⟩)
    show mergeK (putK kvs p.1 p.2) r = _
    rw [e, mergeK_nodup (by simpa using h)]
    simp
end
section
variable {X : Cx} {pos : Pos}
theorem rk_c {K : PySem.W.Frag} {H : Hp} {ι : List Addr} : ∀ (kvs : List (Str × Int)), RK K H ι (kvs.map fun p => ((.inr p.1 : Key), V.int p.2)) (kvs.map fun p => ((.inr p.1 : Key), D.int p.2))
  | [] => .nil
  | p :: r => .cons ⟨rfl, .int p.2⟩ (rk_c r)
/-! ### d.get(k, x), d.get(k) -/
def gGet (rx ry : R) (z : D) : M R := fun e S => match ry with
  | .d y => (match look rx e S with
    | some (.dct kvs) => (keyOf y).map fun k => (.d ((valD kvs k).getD z), e, S)
    | _ => none)
  | _ => none
def chkD (r : R) : M Unit := fun e S => match look r e S with
  | some (.dct _) => some ((), e, S)
  | _ => none
def mGet1 (mo mk : M R) : M R := bnd mo fun x => bnd (chkD x) fun _ => bnd mk fun y => gGet x y .non
def unD (z : R) : M D := match z with
  | .d z => pur z
  | _ => stk
def mGet2 (mo mk mz : M R) : M R := bnd mo fun x => bnd (chkD x) fun _ => bnd mk fun y => bnd mz fun z => bnd (unD z) fun z => gGet x y z
theorem chkD_eq {r : R} {e : En} {S : Sto} {w : Unit × En × Sto} (h : chkD r e S = some w) : (∃ kvs, look r e S = some (.dct kvs)) ∧ w = ((), e, S) := by
  unfold chkD at h
  split at h
  · cases h; exact ⟨⟨_, by assumption⟩, rfl⟩
  · cases h
variable {o e f : Expr} {mo mk mz : M R} {apos cpos : Pos}
theorem gGet_eq {rx ry : R} {z : D} {e : En} {S : Sto} {w : R × En × Sto} (h : gGet rx ry z e S = some w) : ∃ kvs y k, ry = .d y ∧ look rx e S = some (.dct kvs) ∧ keyOf y = some k ∧ w = (.d ((valD kvs k).getD z), e, S) := by
  unfold gGet at h
  split at h
  · split at h
    · obtain ⟨k, h1, h2⟩ := Option.map_eq_some_iff.mp h
      exact ⟨_, _, k, rfl, by assumption, h1, h2.symm⟩
    · cases h
  · cases h
/-! ### xs.extend(new list) -/
def gExtend (r : R) (rs : List R) : M R := match rs with
  | [.new (.lst zs)] => wrL r fun ds => if ds.length + zs.length ≤ 1000000 then some (.d .non, ds ++ zs) else none
  | _ => stk
theorem mg_extend : MtR X "list.extend" (tOM X.K gExtend) := MtR.imp mt_extend fun x xs H Q q => by
  obtain ⟨ι, σ, e, S, rx, rs, r, e', S', R, hx, hs, hm, q⟩ := q
  unfold gExtend at hm
  split at hm
  · obtain ⟨ds, x', es, h1, h2, h3, hz⟩ := wrL_eq hm
    cases hz
    split at h3
    · cases h3
      rename_i hl
      cases hs with
      | cons g1 g2 =>
        cases g2
        obtain ⟨b, rfl, ⟨zs', hb, rz⟩, _, _⟩ := g1
        obtain ⟨a, us, rfl, k1, k2, k3⟩ := R.writeL hx h1 h2
        obtain ⟨R2, P2⟩ := k3 _ _ (k2.append rz)
        exact ⟨a, b, us, zs', rfl, rfl, k1, hb, Nat.le_trans (by rw [k2.length, rz.length]; exact hl) line_ge, q _ _ ι R2 P2 .non trivial⟩
    · cases h3
  · cases hm
end
end G

set_option Elab.async false
set_option linter.all false
set_option maxRecDepth 1000000
set_option maxHeartbeats 4000000
/-! GL: lists that nobody writes, put together. -/
namespace G
variable [Wld]
open PySem PySem.Spec PyProof PyProof.Rows L2
section
variable {X : Cx}
/-- lists, whether locked or not -/
def gAddF (rx ry : R) : M R := fun e S => match look rx e S, look ry e S with
  | some (.lst xs), some (.lst ys) => if xs.length + ys.length ≤ 1000000 then some (.new (.lst (xs ++ ys)), e, S) else none
  | _, _ => none
theorem gAddF_eq {rx ry : R} {e : En} {S : Sto} {z : R × En × Sto} (h : gAddF rx ry e S = some z) : ∃ xs ys, look rx e S = some (.lst xs) ∧ look ry e S = some (.lst ys) ∧ xs.length + ys.length ≤ 1000000 ∧ z = (.new (.lst (xs ++ ys)), e, S) := by
  unfold gAddF at h
  split at h
  · split at h
    · cases h; exact ⟨_, _, by assumption, by assumption, by assumption, rfl⟩
    · cases h
  · cases h
end
/-! ### two defs that call each other, by more than one step -/
theorem GF.recOfS {P : Program} {w : World} {K : PySem.W.Frag} {mg : Str → Option Value} {base : Heap} (s : Nat) {x qual : Str} {st : Stmt} {N ps : List Str} {k : Nat} {body : Fn → M Fl} (D : DF K mg x qual st ps) (Sc : FnScope N ps (defScope st))
    (h : ∀ (n : Nat) (self : Fn), GF P w K mg base (k + (s + 1) * n + 1) x ps.length self → ∀ (f : Addr) (cdv : Value) (A : Around) (outer : List PySem.Env) (sh : Shared) (H : Hp) (vs : List V) (Q : VK) (E : XK), Room (k + (s + 1) * n + s + 1) (A.deeper (envOfC qual (defScope st) sh.heap.objs.size f cdv)) → (A.deeper (envOfC qual (defScope st) sh.heap.objs.size f cdv)).guards = some [] →
      GSs (cxOf CX0 P w K mg base N qual (defScope st) f cdv A outer sh H E).nox (defBody st) (body self)) :
    ∀ n, GF P w K mg base (k + (s + 1) * n + 1) x ps.length (recF (N.length - ps.length) body n) := by
  obtain ⟨f, fd, F, hm, hb⟩ := D.ex
  intro n
  induction n with
  | zero => exact ⟨⟨f, fd, ps, fn_ok (N := N) (body := stk) F Sc fun cdv A outer s H vs Q E hr hgd => gss_never, hm, F.kp, hb⟩⟩
  | succ n ih =>
    have := FnG.mono (fn_ok F Sc (h n _ ih f)) (show k + (s + 1) * n + s + 1 + 1 ≤ k + (s + 1) * (n + 1) + 1 by rw [Nat.mul_add]; omega)
    exact .mk' this hm F.kp hb
/-! ### a, b, .. = a list -/
def mAsgL (n : Nat) (ts : Tgts) (m : M R) : M Fl := bnd m fun r e S => (lstOf r e S).bind fun ds => if ds.length = n then (ts ds e).map fun e' => (.nx, e', S) else none
end G

set_option Elab.async false
set_option linter.all false
set_option maxRecDepth 1000000
set_option maxHeartbeats 4000000
/-! GZ: zip of lists and tuples in any mix. -/
namespace G
variable [Wld]
open PySem PySem.Spec PyProof PyProof.Rows L2
/-- k: a tuple, else a list -/
def SqX (k : Bool) (K : PySem.W.Frag) (H : Hp) (a : Addr) (xs : List V) : Prop := if k = true then SqT K H a xs else SqL K H a xs
def ItX (k : Bool) (h : Heap) (it l : Addr) (i : Nat) : Prop := if k = true then h.IsTupleIter it l i else h.IsListIter it l i
def IsX (k : Bool) (h : Heap) (l : Addr) (its : Array Value) : Prop := if k = true then h.IsTuple l its else h.IsList l its
def ItzX (k1 k2 : Bool) (K : PySem.W.Frag) (a b : Addr) : It :=
  ⟨fun i H => ∃ (xs ys : List V) (x y : V), SqX k1 K H a xs ∧ SqX k2 K H b ys ∧ xs[i]? = some x ∧ ys[i]? = some y,
    fun i H v H' => ∃ T x y, v = .ref T ∧ H T = none ∧ H' = upd H T (.tup [x, y]) ∧ (∀ xs, SqX k1 K H a xs → xs[i]? = some x) ∧ ∀ ys, SqX k2 K H b ys → ys[i]? = some y,
    fun i H => ∃ xs ys : List V, SqX k1 K H a xs ∧ SqX k2 K H b ys ∧ (xs.length ≤ i ∨ ys.length ≤ i)⟩
abbrev begO (k : Bool) (a : Addr) : PySem.Obj := { cls := .type (if k = true then "tuple_iterator" else "list_iterator"), data := .fields #[.ref a, .int 0 0] }
def iZipX (K : PySem.W.Frag) (ta : TA) : TI := fun σ H R => ta σ H fun vs H1 => ∃ a b xs ys k1 k2, vs = [.ref a, .ref b] ∧ SqX k1 K H1 a xs ∧ SqX k2 K H1 b ys ∧ R (ItzX k1 k2 K a b) H1
/-- zip of two of any kind -/
def srcZipX (rs : List R) : M Src := fun e S => match rs with
  | [r1, r2] => (match srcOf r1 e S, srcOf r2 e S with
    | some (s1, _, _), some (s2, _, _) => some (⟨zipD s1.items s2.items, s1.ws ++ s2.ws⟩, e, S)
    | _, _ => none)
  | _ => none
section
variable {X : Cx} {a b : Expr} {ms : M (List R)} {p pos : Pos}
end
end G

set_option Elab.async false
set_option linter.all false
set_option maxRecDepth 1000000
set_option maxHeartbeats 4000000
/-! GI: `x is None` of lists and dicts too. -/
namespace G
variable [Wld]
open PySem PySem.Spec PyProof.Rows L2
def gIsNL (neg : Bool) (rx ry : R) : M R := fun e S => match ry with
  | .d .non => (match rx with
    | .d x => some (.d (.bl (isNon x != neg)), e, S)
    | rx => (look rx e S).map fun _ => (.d (.bl neg), e, S))
  | _ => none
section
variable {X : Cx}
end
end G

set_option Elab.async false
set_option linter.all false
set_option maxRecDepth 1000000
set_option maxHeartbeats 4000000
/-! GJ: list * number. -/
namespace G
variable [Wld]
open PySem PySem.Spec PyProof.Rows L2
def gMulL (rx ry : R) : M R := fun e S => match ry with
  | .d (.int k) => (match look rx e S with
    | some (.lst xs) => if notLst rx && decide (-(2 ^ 63) ≤ k) && decide (k < 2 ^ 63) && decide (xs.length * k.toNat ≤ 1000000) then some (.new (.lst (List.replicate k.toNat xs).flatten), e, S) else none
    | _ => none)
  | _ => none
theorem gMulL_eq {rx ry : R} {e : En} {S : Sto} {z : R × En × Sto} (h : gMulL rx ry e S = some z) : ∃ xs k, look rx e S = some (.lst xs) ∧ ry = .d (.int k) ∧ notLst rx = true ∧ -(2 ^ 63) ≤ k ∧ k < 2 ^ 63 ∧ xs.length * k.toNat ≤ 1000000 ∧ z = (.new (.lst (List.replicate k.toNat xs).flatten), e, S) := by
  unfold gMulL at h
  split at h
  · split at h
    · split at h
      · rename_i hc
        simp only [Bool.and_eq_true, decide_eq_true_eq] at hc
        exact ⟨_, _, by assumption, rfl, hc.1.1.1, hc.1.1.2, hc.1.2, hc.2, (Option.some.inj h).symm⟩
      · cases h
    · cases h
  · cases h
theorem RDs.repN {K : PySem.W.Frag} {H : Hp} {ι : List Addr} {vs : List V} {ds : List D} (h : RDs K H ι vs ds) : ∀ k : Nat, RDs K H ι (List.replicate k vs).flatten (List.replicate k ds).flatten
  | 0 => .nil
  | k + 1 => by
    rw [List.replicate_succ, List.replicate_succ, List.flatten_cons, List.flatten_cons]
    exact h.append (RDs.repN h k)
theorem gop_mulL {X : Cx} : OpR X (binaryOp .Mult) (tO2 X.K gMulL) := OpR.imp op_rep fun x y H Q q => by
  obtain ⟨ι, σ, e, S, rx, ry, r, e', S', R, hx, hy, hm, q⟩ := q
  obtain ⟨xs, k, h1, rfl, h2, h3, h4, h5, hz⟩ := gMulL_eq hm
  cases hz
  cases hy
  obtain ⟨a, vs, rfl, hH, rd⟩ := R.lookM hx h1 (fun es e0 => by subst e0; cases h2)
  refine ⟨a, k, vs, rfl, rfl, hH, h3, h4, Nat.le_trans (by rw [rd.length]; exact h5) line_ge, fun p hp => ?_⟩
  obtain ⟨R2, P2, n1, n2⟩ := R.new (u := .lst (List.replicate k.toNat vs).flatten) hp
  exact q _ _ ι R2 P2 ⟨p, rfl, ⟨_, upd_same, RDs.mono P2.stay P2.pre _ _ (rd.repN k.toNat)⟩, n1, n2⟩ ⟨p, rfl, hp⟩
end G

set_option Elab.async false
set_option linter.all false
set_option maxRecDepth 100000
set_option maxHeartbeats 4000000
/-! GT: the calculus of GD, GL. -/
namespace G
variable [Wld]
open PySem PySem.Spec PyProof.Rows L2
section
variable {e : En} {S : Sto}
theorem wp_asgL {n : Nat} {ts : Tgts} {m : M R} {Q : Fl → En → Sto → Prop} : Wp (mAsgL n ts m) e S Q ↔ Wp m e S fun r e1 S1 => ∃ ds, lstOf r e1 S1 = some ds ∧ ds.length = n ∧ ∃ e2, ts ds e1 = some e2 ∧ Q .nx e2 S1 := by
  unfold mAsgL
  rw [wp_bnd]
  constructor
  · rintro ⟨r, e1, S1, h1, fl, e2, S2, h2, q⟩
    obtain ⟨ds, h3, h4⟩ := Option.bind_eq_some_iff.mp (show (lstOf r e1 S1).bind _ = _ from h2)
    split at h4
    · rename_i hl
      obtain ⟨e3, h5, h6⟩ := Option.map_eq_some_iff.mp h4
      cases h6
      exact ⟨r, e1, _, h1, ds, h3, hl, _, h5, q⟩
    · cases h4
  · rintro ⟨r, e1, S1, h1, ds, h3, hl, e2, h5, q⟩
    exact ⟨r, e1, S1, h1, _, _, _, by show (lstOf r e1 S1).bind _ = _; rw [h3]; simp only [Option.bind_some, hl, if_true, h5, Option.map_some], q⟩
variable {Q : R → En → Sto → Prop}
theorem wp_addF {rx ry : R} : Wp (gAddF rx ry) e S Q ↔ ∃ xs, look rx e S = some (.lst xs) ∧ ∃ ys, look ry e S = some (.lst ys) ∧ xs.length + ys.length ≤ 1000000 ∧ Q (.new (.lst (xs ++ ys))) e S := by
  constructor
  · rintro ⟨r, e1, S1, h, q⟩
    obtain ⟨xs, ys, h1, h2, h3, h4⟩ := gAddF_eq h
    cases h4
    exact ⟨xs, h1, ys, h2, h3, q⟩
  · rintro ⟨xs, h1, ys, h2, h3, q⟩
    exact ⟨_, _, _, by unfold gAddF; rw [h1, h2]; simp only [h3, if_true], q⟩
theorem wp_mDl {kvs : List (Str × Int)} : Wp (mDl kvs) e S Q ↔ Q (.new (.dct (kvs.map fun p => (.inr p.1, .int p.2)))) e S := wp_pur
theorem wp_get {rx : R} {y z : D} : Wp (gGet rx (.d y) z) e S Q ↔ ∃ kvs, look rx e S = some (.dct kvs) ∧ ∃ k, keyOf y = some k ∧ Q (.d ((valD kvs k).getD z)) e S := by
  constructor
  · rintro ⟨r, e1, S1, h, q⟩
    obtain ⟨kvs, y', k, h1, h2, h3, h4⟩ := gGet_eq h
    cases h1; cases h4
    exact ⟨kvs, h2, k, h3, q⟩
  · rintro ⟨kvs, h2, k, h3, q⟩
    exact ⟨_, _, _, by unfold gGet; simp only [h2, h3, Option.map_some], q⟩
theorem wp_chkD {rx : R} {Q : Unit → En → Sto → Prop} : Wp (chkD rx) e S Q ↔ ∃ kvs, look rx e S = some (.dct kvs) ∧ Q () e S := by
  constructor
  · rintro ⟨r, e1, S1, h, q⟩
    obtain ⟨⟨kvs, h1⟩, h2⟩ := chkD_eq h
    cases h2
    exact ⟨kvs, h1, q⟩
  · rintro ⟨kvs, h1, q⟩
    exact ⟨_, _, _, by unfold chkD; rw [h1], q⟩
theorem wp_unD {z : D} {Q : D → En → Sto → Prop} : Wp (unD (.d z)) e S Q ↔ Q z e S := wp_pur
theorem wp_extend {r : R} {zs : List D} : Wp (gExtend r [.new (.lst zs)]) e S Q ↔ ∃ ds, look r e S = some (.lst ds) ∧ isW r = true ∧ ds.length + zs.length ≤ 1000000 ∧ Q (.d .non) (putE r (.lst (ds ++ zs)) e) (putS r (.lst (ds ++ zs)) S) := by
  constructor
  · rintro ⟨a, e', S', h, q⟩
    obtain ⟨ds, y, es, h1, h2, h3, h4⟩ := wrL_eq (show wrL r _ e S = _ from h)
    cases h4
    split at h3
    · cases h3; exact ⟨ds, h1, h2, by assumption, q⟩
    · cases h3
  · rintro ⟨ds, h1, h2, h3, q⟩
    exact (wp_wrL h1 h2 (by rw [if_pos h3])).mpr q
theorem wp_popI {r : R} {i : Int} : Wp (gPop r [.d (.int i)]) e S Q ↔ ∃ ds, look r e S = some (.lst ds) ∧ isW r = true ∧ -(2 ^ 63) ≤ i ∧ i < 2 ^ 63 ∧ ∃ k, seqIndex? i ds.length = some k ∧ ∃ d, ds[k]? = some d ∧ Q (.d d) (putE r (.lst (ds.eraseIdx k)) e) (putS r (.lst (ds.eraseIdx k)) S) := by
  constructor
  · rintro ⟨a, e', S', h, q⟩
    obtain ⟨ds, y, es, h1, h2, h3, h4⟩ := wrL_eq (show wrL r _ e S = _ from h)
    cases h4
    split at h3
    · rename_i hi
      obtain ⟨k, hk, h3⟩ := Option.bind_eq_some_iff.mp h3
      obtain ⟨d, hd, hz⟩ := Option.map_eq_some_iff.mp h3
      cases hz
      exact ⟨ds, h1, h2, hi.1, hi.2, k, hk, d, hd, q⟩
    · cases h3
  · rintro ⟨ds, h1, h2, h3, h4, k, hk, d, hd, q⟩
    exact (wp_wrL h1 h2 (by rw [if_pos ⟨h3, h4⟩, hk]; simp only [Option.bind_some, hd, Option.map_some])).mpr q
end
theorem wp_isNL_d {neg : Bool} {x : D} {e : En} {S : Sto} {Q : R → En → Sto → Prop} : Wp (gIsNL neg (.d x) (.d .non)) e S Q ↔ Q (.d (.bl (isNon x != neg))) e S := wp_some rfl
theorem wp_isNL_new {neg : Bool} {o : O} {e : En} {S : Sto} {Q : R → En → Sto → Prop} : Wp (gIsNL neg (.new o) (.d .non)) e S Q ↔ Q (.d (.bl neg)) e S := wp_some rfl
theorem wp_isNL_brw {neg : Bool} {o : O} {e : En} {S : Sto} {Q : R → En → Sto → Prop} : Wp (gIsNL neg (.brw o) (.d .non)) e S Q ↔ Q (.d (.bl neg)) e S := wp_some rfl
theorem wp_isNL_loc {neg : Bool} {i : Nat} {e : En} {S : Sto} {Q : R → En → Sto → Prop} : Wp (gIsNL neg (.loc i) (.d .non)) e S Q ↔ ∃ o, look (.loc i) e S = some o ∧ Q (.d (.bl neg)) e S := by
  constructor
  · rintro ⟨r, e1, S1, h, q⟩
    obtain ⟨o, h1, h2⟩ := Option.map_eq_some_iff.mp (show (look (.loc i) e S).map (fun _ => (R.d (.bl neg), e, S)) = _ from h)
    cases h2
    exact ⟨o, h1, q⟩
  · rintro ⟨o, h1, q⟩
    exact ⟨_, _, _, by show (look (.loc i) e S).map (fun _ => (R.d (.bl neg), e, S)) = _; rw [h1]; rfl, q⟩
theorem wp_mulL {rx : R} {k : Int} {e : En} {S : Sto} {Q : R → En → Sto → Prop} : Wp (gMulL rx (.d (.int k))) e S Q ↔ ∃ xs, look rx e S = some (.lst xs) ∧ notLst rx = true ∧ -(2 ^ 63) ≤ k ∧ k < 2 ^ 63 ∧ xs.length * k.toNat ≤ 1000000 ∧ Q (.new (.lst (List.replicate k.toNat xs).flatten)) e S := by
  constructor
  · rintro ⟨r, e1, S1, h, q⟩
    obtain ⟨xs, k', h1, h2, h3, h4, h5, h6, h7⟩ := gMulL_eq h
    cases h2; cases h7
    exact ⟨xs, h1, h3, h4, h5, h6, q⟩
  · rintro ⟨xs, h1, h2, h3, h4, h5, q⟩
    exact ⟨_, _, _, by unfold gMulL; simp only [h1, h2, decide_eq_true h3, decide_eq_true h4, decide_eq_true h5, Bool.and_self, if_true], q⟩
theorem notLst_new {o : O} : notLst (.new o) = true := rfl
theorem notLst_loc {i : Nat} : notLst (.loc i) = true := rfl
theorem notLst_brw {o : O} : notLst (.brw o) = true := rfl
theorem ev7 : type_of% (And.intro @wp_isNL_d (And.intro @wp_isNL_new (And.intro @wp_isNL_brw (And.intro @wp_isNL_loc (And.intro @wp_asgL (And.intro @wp_addF (And.intro @wp_mDl (And.intro @wp_get (And.intro @wp_chkD (And.intro @wp_extend (And.intro @wp_mulL (And.intro @notLst_new (And.intro @notLst_loc (And.intro @notLst_brw @wp_unD)))))))))))))) := (And.intro @wp_isNL_d (And.intro @wp_isNL_new (And.intro @wp_isNL_brw (And.intro @wp_isNL_loc (And.intro @wp_asgL (And.intro @wp_addF (And.intro @wp_mDl (And.intro @wp_get (And.intro @wp_chkD (And.intro @wp_extend (And.intro @wp_mulL (And.intro @notLst_new (And.intro @notLst_loc (And.intro @notLst_brw @wp_unD))))))))))))))
end G

set_option Elab.async false
set_option linter.all false
set_option maxRecDepth 1000000
set_option maxHeartbeats 4000000
/-! GY: sorted(xs, key=f), where an invariant leads over f's calls. -/
namespace G
variable [Wld]
open PySem PySem.Calls PyProof.Rows PySem.W
/-- a list or a tuple of these items -/
def SeqI (h : Heap) (l : Addr) (its : Array Value) : Prop := h.IsList l its ∨ IsTup h l its
section
variable {prog : Program} {w : World} {A : Around} {E : Value → Shared → Prop} {s : Shared}
end
section
variable {prog : Program} {w : World} {A : Around} {E : Value → Shared → Prop} {s : Shared}
/-- all stays but a and c -/
def But2 (a c : Addr) (h g : Heap) : Prop := ∃ h1, Heap.SameBut c h h1 ∧ (∃ e, h1.get? c = some (seqObj "list" #[] e)) ∧ Heap.SameBut a h1 g
theorem srt_tail {st : SortSt} {P : PySem.Fin → Shared → Prop} {a c : Addr} {rev : Bool} {kv : Array Value} {ec ea : Nat} {res : List Value} (hc : s.heap.get? c = some (seqObj "list" kv ec)) (ha : s.heap.get? a = some (seqObj "list" #[] ea)) (ca : c ≠ a)
    (z1 : kv.size ≤ sizeLine) (z2 : res.length ≤ sizeLine) (nf : failedOf st = none) (e : (if rev = true then ((arrOf st).map (·.2)).reverse else (arrOf st).map (·.2)) = res.toArray)
    (fin : ∀ g tk n, But2 a c s.heap g → g.get? a = some (seqObj "list" res.toArray n) → P (.done (.ret .none)) { s with heap := g, toks := tk }) : wpAny (model prog w) A (ksk_tail a rev ea (.ref c) st) P E s := by
  have u1 := Heap.SameBut.update s.heap c (PySem.Obj.mapSeq fun _ => #[])
  have ha1 : (s.heap.update c (PySem.Obj.mapSeq fun _ => #[])).get? a = some (seqObj "list" #[] ea) := by rw [u1.2 a (Ne.symm ca)]; exact ha
  have u2 := Heap.SameBut.update (s.heap.update c (PySem.Obj.mapSeq fun _ => #[])) a (PySem.Obj.mapSeq fun _ => res.toArray)
  have got := get?_update_seq ha1 fun _ => res.toArray
  unfold ksk_tail
  dsimp only
  rw [e]
  refine wpAny_bind (listUpdate_at hc rfl (wpAny_bind (wpAny_letGo (wpAny_bind (seqEpoch_at ha1 rfl (wpAny_bind (listUpdate_at ha1 rfl ?_ (Nat.zero_le _) ?_)))))) z1 (Nat.zero_le _))
  · rw [nf]
    simp only [bne_self_eq_false, Bool.false_eq_true, if_false]
    exact wpAny_pure (fin _ _ _ ⟨_, u1, ⟨_, get?_update_seq hc fun _ => #[]⟩, u2⟩ got)
  · rw [List.size_toArray]; exact Nat.le_succ_of_le z2
theorem srt_end {κ : PyProof.Rows.KeyKind} {P : PySem.Fin → Shared → Prop} {a c : Addr} {rev : Bool} {kv : Array Value} {xs : List Value} {ec ea : Nat} (hc : s.heap.get? c = some (seqObj "list" kv ec)) (ha : s.heap.get? a = some (seqObj "list" #[] ea)) (ca : c ≠ a)
    (S : SortsAt prog w A s κ kv.toList) (zk : kv.size = xs.length) (zx : xs.length ≤ sizeLine)
    (fin : ∀ g tk n, But2 a c s.heap g → g.get? a = some (seqObj "list" (sortVals κ rev kv.toList xs).toArray n) → P (.done (.ret .none)) { s with heap := g, toks := tk }) :
    wpAny (model prog w) A (ksk_end a rev xs.toArray ea (.ref c) kv) P E s := by
  obtain ⟨kd, lt, kk⟩ := S.kind
  have zl : kv.toList.length = xs.length := by rw [Array.length_toList, zk]
  have ko : PyProof.Rows.KeysOf κ (kv.zip xs.toArray) := keysOf_zip S.keys
  have zo : (sortVals κ rev kv.toList xs).length = xs.length := sortVals_length rev zl
  obtain ⟨ar, har⟩ : ∃ ar, ar = if rev = true then (kv.zip xs.toArray).reverse else kv.zip xs.toArray := ⟨_, rfl⟩
  have hp : ar.Perm (kv.zip xs.toArray) := by
    rw [har]
    cases rev with
    | false => simp
    | true =>
      rw [if_pos rfl, Array.perm_iff_toList_perm, Array.toList_reverse]
      exact List.reverse_perm _
  have hs : ar.size = xs.length := by rw [hp.size_eq]; simp [zk]
  have out : ∀ t : SortSt, (arrOf t).Perm ar → SortedToK κ (arrOf t) ar.size → Stable κ (arrOf t) ar → (if rev = true then ((arrOf t).map (·.2)).reverse else (arrOf t).map (·.2)) = (sortVals κ rev kv.toList xs).toArray := fun t t1 t2 t3 => by
    have := sort_out (rev := rev) (keys := kv) (items := xs.toArray) (xs := arrOf t) (κ := κ) ko (by rw [← har]; exact t1) (by rw [← har]; exact t2) (by rw [← har]; exact t3)
    have q := congrArg List.toArray this
    rw [Array.toArray_toList] at q
    exact q
  have skip : ∀ {m : Sem PySem.Fin}, wpAny (model prog w) A m P E s → wpAny (model prog w) A (if rev = true then (do let _ ← rule "list.sort.reverse"; m) else m) P E s := fun hm => by
    cases rev with
    | false => rw [if_neg (by decide)]; exact hm
    | true => rw [if_pos rfl]; exact wpAny_bind (wpAny_rule hm)
  unfold ksk_end
  dsimp only
  refine skip ?_
  rw [← har]
  have z2 : kv.size ≤ sizeLine := by rw [zk]; exact zx
  have z3 : (sortVals κ rev kv.toList xs).length ≤ sizeLine := by rw [zo]; exact zx
  by_cases few : xs.toArray.size < 2
  · rw [if_pos few, if_pos few]
    refine wpAny_bind (wpAny_pure ?_)
    rw [StateT.run_pure]
    refine wpAny_bind (wpAny_pure (srt_tail (st := SortSt.mk' general' ar #[] 7 none) hc ha ca z2 z3 rfl (out _ (Array.Perm.refl _) (fun i j ij jn => ?_) (Stable.refl _)) fin))
    rw [List.size_toArray] at few
    rw [hs] at jn
    obtain rfl : i = j := by omega
    exact KeyOrd.kle_refl _
  · rw [if_neg few, if_neg few]
    rw [List.size_toArray] at few
    refine wpAny_bind (kk (by omega) _ (wpAny_bind (wpAny_mono (H.wpS_sortRunsSt (κ := κ) (kd := kd) (a₀ := ar) (st := SortSt.mk' kd ar #[] 7 none)
      (Q := fun _ t => failedOf t = none ∧ (if rev = true then ((arrOf t).map (·.2)).reverse else (arrOf t).map (·.2)) = (sortVals κ rev kv.toList xs).toArray)
      lt (ko.perm hp) ⟨Array.Perm.refl _, rfl, rfl⟩ rfl (Stable.refl _) (by omega) fun t t1 t2 t3 t4 => ⟨t2, out t t1 t3 t4⟩) (fun r t hr => ?_) fun _ _ q => q)))
    obtain ⟨⟨⟩, t'⟩ := r
    obtain ⟨rfl, q1, q2⟩ := hr
    exact srt_tail hc ha ca z2 z3 q1 q2 fin
/-- what leads over the calls of f: J n ks: n items are asked, their keys are ks; a, c: the list that is sorted, the keys' list -/
structure Leads (prog : Program) (w : World) (A : Around) (f : Value) (xs : List Value) (kz : List PyData) (a c : Addr) (J : Nat → List Value → Shared → Prop) : Prop where
  turn : ∀ (i : Nat) (x : Value) (ks : List Value) (t : Shared) (kv : Array Value) (ec ea : Nat) (E : Value → Shared → Prop), xs[i]? = some x → J i ks t → t.heap.get? c = some (seqObj "list" kv ec) → t.heap.get? a = some (seqObj "list" #[] ea) →
    wpAny (model prog w) A (call f [x]) (fun u t' => J (i + 1) (ks ++ [u]) t' ∧ t'.heap.get? c = some (seqObj "list" kv ec) ∧ t'.heap.get? a = some (seqObj "list" #[] ea)) E t
  store : ∀ (i : Nat) (ks : List Value) (t : Shared) (kv : Array Value) (ec : Nat) (g : Heap), J i ks t → t.heap.get? c = some (seqObj "list" kv ec) → Heap.SameBut c t.heap g → (∃ kv' ec', g.get? c = some (seqObj "list" kv' ec')) → J i ks { t with heap := g }
  read : ∀ (ks : List Value) (t : Shared), J xs.length ks t → EachIs (fun v k => ∃ as, Reads t.heap v k as) ks kz
theorem srt_rest {P : PySem.Fin → Shared → Prop} {a c : Addr} {rev : Bool} {f : Value} {xs : List Value} {kz : List PyData} {ea : Nat} {J : Nat → List Value → Shared → Prop} (L : Leads prog w A f xs kz a c J) (h0 : J 0 [] s)
    (hc : s.heap.get? c = some (seqObj "list" #[] 0)) (ha : s.heap.get? a = some (seqObj "list" #[] ea)) (ca : c ≠ a) (zk : kz.length = xs.length) (zx : xs.length ≤ sizeLine) (al : AllAlike kz) (so : Sortable kz) (room : ∀ d, d ∈ kz → A.units + d.depth < cLine)
    (fin : ∀ ks t, J xs.length ks t → ∀ g tk n out, But2 a c t.heap g → g.get? a = some (seqObj "list" (List.toArray out) n) → KeyedOut rev kz xs out → P (.done (.ret .none)) { t with heap := g, toks := tk }) :
    wpAny (model prog w) A (ksk_rest a f rev xs.toArray ea (.ref c)) P E s := by
  unfold ksk_rest
  refine wpAny_bind (wpAny_rule ?_)
  rw [List.forIn_toArray]
  refine wpAny_bind (ksk_fold (fun i t => ∃ (kv : Array Value) (ec : Nat), J i kv.toList t ∧ t.heap.get? c = some (seqObj "list" kv ec) ∧ t.heap.get? a = some (seqObj "list" #[] ea) ∧ kv.size = i) xs 0 s ⟨#[], 0, h0, hc, ha, rfl⟩ ?_ ?_)
  · rintro j x t hx ⟨kv, ec, hJ, gc, ga, zs⟩
    rw [Nat.zero_add] at hJ zs ⊢
    have hj : j < xs.length := (List.getElem?_eq_some_iff.mp hx).1
    refine wpAny_bind (wpAny_attempt (wpAny_mono (L.turn j x kv.toList t kv ec ea _ hx hJ gc ga) (fun u t' ht => ?_) fun _ _ q => q))
    obtain ⟨hJ', gc', ga'⟩ := ht
    dsimp only
    have same := Heap.SameBut.update t'.heap c (PySem.Obj.mapSeq (·.push u))
    have got := get?_update_seq gc' (·.push u)
    refine wpAny_bind (listUpdate_at gc' rfl (wpAny_pure ⟨rfl, kv.push u, _, ?_, got, ?_, by simp [zs]⟩) (by omega) (by rw [Array.size_push]; omega))
    · rw [Array.toList_push]
      exact L.store (j + 1) _ t' kv ec _ hJ' gc' same ⟨_, _, got⟩
    · rw [same.2 a (Ne.symm ca)]; exact ga'
  · rintro t ⟨kv, ec, hJ, gc, ga, zs⟩
    rw [Nat.zero_add] at hJ zs
    have rd := L.read _ t hJ
    refine wpAny_bind (listItems_at gc rfl ?_)
    exact srt_end (κ := dataKind t.heap kz) gc ga ca (SortsAt.data rd al so room) zs zx fun g tk n b2 got => fin _ t hJ g tk n _ b2 got ⟨t.heap, kv.toList, al, rfl, rd⟩
theorem srt_tree {P : PySem.Fin → Shared → Prop} {a : Addr} {rev : Bool} {f : Value} {xs : List Value} {n : Nat} {kz : List PyData} {J : Nat → List Value → Shared → Prop} (ho : s.heap.get? a = some (seqObj "list" xs.toArray n))
    (L : Leads prog w A f xs kz a (s.heap.objs.size + 1) J) (h0 : ∀ g tk ea, (∀ b o, b ≠ a → s.heap.get? b = some o → g.get? b = some o) → g.get? a = some (seqObj "list" #[] ea) → g.get? (s.heap.objs.size + 1) = some (seqObj "list" #[] 0) → J 0 [] { s with heap := g, toks := tk })
    (zk : kz.length = xs.length) (zx : xs.length ≤ sizeLine) (al : AllAlike kz) (so : Sortable kz) (room : ∀ d, d ∈ kz → A.units + d.depth < cLine)
    (fin : ∀ ks t, J xs.length ks t → ∀ g tk n out, But2 a (s.heap.objs.size + 1) t.heap g → g.get? a = some (seqObj "list" (List.toArray out) n) → KeyedOut rev kz xs out → P (.done (.ret .none)) { t with heap := g, toks := tk }) :
    wpAny (model prog w) A (ksk_tree a f rev) P E s := by
  have la : a < s.heap.objs.size := Heap.lt_size ho
  have g1 := get?_update_seq ho fun _ => (#[] : Array Value)
  have sz : ((s.heap.update a (PySem.Obj.mapSeq fun _ => (#[] : Array Value))).push (seqObj "tuple" xs.toArray 0)).objs.size = s.heap.objs.size + 1 := by rw [size_push', Heap.size_update]
  unfold ksk_tree
  refine wpAny_bind (listItems_at ho rfl (wpAny_bind (listUpdate_at ho rfl (wpAny_bind (seqEpoch_at g1 rfl (wpAny_bind (wpAny_newTuple (wpAny_bind (wpAny_newList (wpAny_holding ?_) (Nat.zero_le _))) (by show xs.length ≤ _; exact zx))))) (by rw [List.size_toArray]; exact zx) (Nat.zero_le _))))
  rw [sz]
  have gc := Heap.get?_push_size ((s.heap.update a (PySem.Obj.mapSeq fun _ => (#[] : Array Value))).push (seqObj "tuple" xs.toArray 0)) (o := seqObj "list" #[] 0) rfl
  rw [sz] at gc
  have ga := Heap.get?_push_of_some (seqObj "list" #[] 0) (Heap.get?_push_of_some (seqObj "tuple" xs.toArray 0) g1)
  exact srt_rest (c := s.heap.objs.size + 1) L (h0 _ _ _ (fun b o hb e => sortingHeap_old hb e) ga gc) gc ga (Nat.ne_of_gt (Nat.lt_succ_of_lt la)) zk zx al so room fin
end
end G

set_option Elab.async false
set_option linter.all false
set_option maxRecDepth 1000000
set_option maxHeartbeats 4000000
/-! GK: sorted(xs, key=f), f a def of the text. -/
namespace G
variable [Wld]
open PySem PySem.Spec PyProof.Rows L2
mutual
/-- data as a key -/
def kyr : D → Option PyData
  | .non => some .none
  | .bl b => some (.bool b)
  | .int i => some (.int i)
  | .str x => some (.str x)
  | .tup ds => (kyrs ds).map .tuple
  | .lst ds => (kyrs ds).map .list
  | .dic _ _ => none
  | .ref _ => none
  | .fn _ => none
  | .exc _ _ _ => none
def kyrs : List D → Option (List PyData)
  | [] => some []
  | d :: ds => match kyr d, kyrs ds with
    | some p, some ps => some (p :: ps)
    | _, _ => none
end
theorem kyrs_cons {d : D} {ds : List D} {qs : List PyData} (h : kyrs (d :: ds) = some qs) : ∃ p ps, kyr d = some p ∧ kyrs ds = some ps ∧ qs = p :: ps := by
  unfold kyrs at h
  split at h
  · cases h; exact ⟨_, _, by assumption, by assumption, rfl⟩
  · cases h
section
variable {H : Hp} {ι : List Addr} {X : Cx} {pins : List (Addr × PySem.Obj)} {σ : SV} {s : Shared}
mutual
theorem RD.reads (I : Inv X pins σ H s) : ∀ (d : D) (v : V) (u : Value) (p : PyData), RD X.K H ι v d → RelV v u → kyr d = some p → ∃ as, Reads s.heap u p as
  | .non, _, _, _, h, r, e => by cases h; cases r; cases e; exact ⟨_, .none⟩
  | .bl b, _, _, _, h, r, e => by cases h; cases r; cases e; exact ⟨_, .bool b⟩
  | .int i, _, _, _, h, r, e => by cases h; obtain ⟨t, rfl⟩ := r; cases e; exact ⟨_, .int i t⟩
  | .str x, _, _, _, h, r, e => by cases h; obtain ⟨t, rfl⟩ := r; cases e; exact ⟨_, .str x t⟩
  | .tup ds, _, _, _, h, r, e => by
    obtain ⟨ps, e1, e2⟩ := Option.map_eq_some_iff.mp (show (kyrs ds).map PyData.tuple = some _ from e)
    subst e2
    cases h with | tup h1 h2 =>
    cases r
    obtain ⟨its, rv, ⟨o, g, c, n, dd⟩, _⟩ := I.tuple h1
    obtain ⟨as, q⟩ := RDs.reads I ds _ _ _ h2 rv e1
    exact ⟨_, .tuple g c dd q⟩
  | .lst ds, _, _, _, h, r, e => by
    obtain ⟨ps, e1, e2⟩ := Option.map_eq_some_iff.mp (show (kyrs ds).map PyData.list = some _ from e)
    subst e2
    cases h with | lst h1 h2 =>
    cases r
    obtain ⟨its, rv, t, _⟩ := I.list h1.sq
    obtain ⟨o, g, c, n, dd⟩ := t.isList
    obtain ⟨as, q⟩ := RDs.reads I ds _ _ _ h2 rv e1
    exact ⟨_, .list g c dd q⟩
  | .dic _ _, _, _, _, _, _, e => by cases e
  | .ref _, _, _, _, _, _, e => by cases e
  | .fn _, _, _, _, _, _, e => by cases e
theorem RDs.reads (I : Inv X pins σ H s) : ∀ (ds : List D) (vs : List V) (us : List Value) (ps : List PyData), RDs X.K H ι vs ds → Vals vs us → kyrs ds = some ps → ∃ as, ReadsAll s.heap us ps as
  | [], _, _, _, h, r, e => by cases h; cases r; cases e; exact ⟨_, .nil⟩
  | d :: ds, _, _, _, h, r, e => by
    obtain ⟨p, ps, e1, e2, rfl⟩ := kyrs_cons e
    cases h with | cons h1 h2 =>
    cases r with | cons r1 r2 =>
    obtain ⟨as, q1⟩ := RD.reads I d _ _ p h1 r1 e1
    obtain ⟨bs, q2⟩ := RDs.reads I ds _ _ ps h2 r2 e2
    exact ⟨_, .cons q1 q2⟩
end
end
/-- what a call gave, as it stands behind others -/
def RKy (K : PySem.W.Frag) (H : Hp) (ι : List Addr) (v : V) : Rt → Prop
  | .d x => RD K H ι v x
  | .new o => ∃ a, v = .ref a ∧ RO K H ι a o ∧ a ∉ ι
theorem RKy.post {K : PySem.W.Frag} {H H' : Hp} {ι ι' : List Addr} {v : V} {r : Rt} (h : RKy K H ι v r) (P : PostC H ι H' ι') : RKy K H' ι' v r := by
  cases r with
  | d x => exact RD.mono P.stay P.pre _ _ h
  | new o =>
    obtain ⟨a, e, ro, n⟩ := h
    obtain ⟨u, hu, _⟩ := ro.there
    exact ⟨a, e, ro.mono P.stay P.pre fun u' hu' => (P.keep a u' hu' n).1, (P.keep a u hu n).2⟩
def rtKey : Rt → Option PyData
  | .d x => kyr x
  | .new (.lst ds) => (kyrs ds).map .list
  | .new (.dct _) => none
  | .new (.kd _) => none
  | .new (.tab _) => none
  | .new (.ins _ _ _) => none
  | .new (.kx _) => none
theorem RKy.reads {H : Hp} {ι : List Addr} {X : Cx} {pins : List (Addr × PySem.Obj)} {σ : SV} {s : Shared} (I : Inv X pins σ H s) {v : V} {u : Value} {r : Rt} {p : PyData} (h : RKy X.K H ι v r) (rv : RelV v u) (e : rtKey r = some p) : ∃ as, Reads s.heap u p as := by
  cases r with
  | d x => exact RD.reads I x v u p h rv e
  | new o =>
    cases o with
    | dct kvs => cases e
    | kd kvs => cases e
    | tab q => cases e
    | ins _ _ _ => cases e
    | kx _ => cases e
    | lst ds =>
      obtain ⟨ps, e1, e2⟩ := Option.map_eq_some_iff.mp (show (kyrs ds).map PyData.list = some p from e)
      subst e2
      obtain ⟨a, rfl, ⟨xs, h1, h2⟩, _⟩ := h
      cases rv
      obtain ⟨its, rr, t, _⟩ := I.list (.inl (.inl h1))
      obtain ⟨o, g, c, n, dd⟩ := t.isList
      obtain ⟨as, q⟩ := RDs.reads I ds _ _ _ h2 rr e1
      exact ⟨_, .list g c dd q⟩
end G

set_option Elab.async false
set_option linter.all false
set_option maxRecDepth 1000000
set_option maxHeartbeats 4000000
/-! GA: sorted(xs, key=f), the rule. -/
namespace G
variable [Wld]
open PySem PySem.Spec PyProof.Rows PySem.W L2
theorem exa_ok {P : Program} {w : World} {H : Hp} {h : Heap} {a : Addr} {o : PySem.Obj} (e : h.get? a = some o) : ObjOk P w H h a (exa a o) := ⟨e, ⟨o, e⟩, fun _ _ e1 k => k _ e1⟩
section
variable {X : Cx} {pins : List (Addr × PySem.Obj)} {σ : SV} {H : Hp} {s : Shared}
end
section
variable {K : PySem.W.Frag} {H H' : Hp} {ι ι' : List Addr} {S : Sto}
theorem RelS.rel (R : RelS K H ι S) : Rel K H ι [] [] S := ⟨rfl, fun i s h => by simp at h, R.ilen, R.st, R.nd, fun i o a h => by simp at h, fun i o a h => by simp at h⟩
theorem RelS.notin (R : RelS K H ι S) {a : Addr} (h : ∀ o : O, ¬ RO K H ι a o) : a ∉ ι := fun z => by
  obtain ⟨n, hn⟩ := List.getElem?_of_mem z
  have hlt := (List.getElem?_eq_some_iff.mp hn).1
  rw [R.ilen] at hlt
  exact h _ (R.st n _ a (List.getElem?_eq_getElem hlt) hn)
theorem ro_exa {a : Addr} {vs : Array Value} {n : Nat} (h : H a = some (exa a (seqObj "list" vs n))) {g : Heap} (hg : g.get? a = some (seqObj "list" vs n)) (u : O) : ¬ RO K H ι a u := fun r => by
  cases u with
  | lst ds => obtain ⟨xs, h1, _⟩ := r; rw [h] at h1; cases h1
  | dct kvs => obtain ⟨xs, h1, _⟩ := r; rw [h] at h1; cases h1
  | tab q => obtain ⟨_, ps, h1, _⟩ := r; rw [h] at h1; cases h1
  | ins c ns ds => obtain ⟨dx, xs, h1, _⟩ := r; rw [h] at h1; cases h1
  | kx kvs => obtain ⟨o, ws, h1, _⟩ := r; rw [h] at h1; cases h1
  | kd kvs =>
    obtain ⟨o', es, ep, xs, k⟩ := r
    have e1 := HO.ext.inj (Option.some.inj (h.symm.trans k.at_))
    have e2 : g.get? a = some o' := (congrFun e1 g).mp hg
    rw [hg] at e2
    obtain rfl := Option.some.inj e2
    exact absurd k.ex.1 (by simp [seqObj])
theorem lmu_seq {a : Addr} {vs : Array Value} {n : Nat} : ¬ LmU a (exa a (seqObj "list" vs n)) := (exa_ns (fun _ z => by cases z) (fun z => by cases z) (fun _ z => by cases z) (fun _ z => by cases z)).2.2.2
theorem stay_exa {a : Addr} {o : PySem.Obj} (h : H a = some (exa a o)) (u : HO) (hd : ∀ vs, o.data ≠ .fields vs := by intro vs z; cases z) (hf : o.data ≠ .freed := by intro z; cases z) (hcl : ∀ v, o.data ≠ .cell v := by intro v z; cases z) (hfn : ∀ fd, o.data ≠ .func fd := by intro v z; cases z) (hu : ¬ LmU a u := by first | exact lmu_lst | exact lmu_seq | assumption) : Stay H (upd H a u) := Stay.mut h (fun _ z => nomatch z) (fun _ _ z => nomatch z) (exa_ns hd hf hcl hfn) hu
theorem RelS.upd (R : RelS K H ι S) {a : Addr} {vs : Array Value} {n : Nat} (h : H a = some (exa a (seqObj "list" vs n))) {g : Heap} (hg : g.get? a = some (seqObj "list" vs n)) (u : HO) (hu : ¬ LmU a u := by first | exact lmu_lst | exact lmu_seq) : RelS K (upd H a u) ι S :=
  (R.rel.other (u := u) (stay_exa h u) (R.notin (ro_exa h hg)) fun ⟨i, s, h1, _⟩ => by simp at h1).s
theorem PostC.fresh {H0 : Hp} {ι0 : List Addr} (P : PostC H0 ι0 H ι) {a : Addr} {u : HO} (f : H0 a = none) (st : Stay H (upd H a u)) : PostC H0 ι0 (upd H a u) ι :=
  ⟨P.pre, P.stay.trans st, fun b x h => by rw [upd_ne (ne_of_none h f)]; exact P.dom b x h, fun b x h1 h2 => by rw [upd_ne (ne_of_none h1 f)]; exact P.keep b x h1 h2⟩
theorem PostC.trans {H0 H1 H2 : Hp} {ι0 ι1 ι2 : List Addr} (a : PostC H0 ι0 H1 ι1) (b : PostC H1 ι1 H2 ι2) : PostC H0 ι0 H2 ι2 := by
  obtain ⟨⟨l, rfl⟩, s, d, k⟩ := a
  obtain ⟨⟨l', rfl⟩, s', d', k'⟩ := b
  exact ⟨⟨l ++ l', by simp⟩, s.trans s', fun x o h => let ⟨o1, h1⟩ := d x o h; d' x o1 h1, fun x o h1 h2 => let ⟨q1, q2⟩ := k x o h1 h2; k' x o q1 q2⟩
theorem PostC.new {a : Addr} {u : HO} (f : H a = none) : PostC H ι (upd H a u) ι :=
  ⟨⟨[], by simp⟩, Stay.new f, fun b x h => ⟨x, by rw [upd_ne (ne_of_none h f)]; exact h⟩, fun b x h1 h2 => ⟨by rw [upd_ne (ne_of_none h1 f)]; exact h1, h2⟩⟩
theorem RKy.upd {v : V} {r : Rt} {a : Addr} {vs : Array Value} {n : Nat} (k : RKy K H ι v r) (h : H a = some (exa a (seqObj "list" vs n))) {g : Heap} (hg : g.get? a = some (seqObj "list" vs n)) (u : HO) (hu : ¬ LmU a u := by first | exact lmu_lst | exact lmu_seq) : RKy K (upd H a u) ι v r := by
  cases r with
  | d x => exact RD.mono (stay_exa h u) ⟨[], by simp⟩ _ _ k
  | new q =>
    obtain ⟨c, e, ro, n⟩ := k
    have ca : c ≠ a := fun z => by subst z; exact ro_exa h hg q ro
    exact ⟨c, e, ro.mono (stay_exa h u) ⟨[], by simp⟩ fun w hw => by rw [upd_ne ca]; exact hw, n⟩
theorem EachIs.snoc {α β : Type} {R : α → β → Prop} : ∀ {as : List α} {bs : List β} {a : α} {b : β}, EachIs R as bs → R a b → EachIs R (as ++ [a]) (bs ++ [b])
  | _, _, _, _, .nil, h => .cons h .nil
  | _, _, _, _, .cons h t, r => .cons h (EachIs.snoc t r)
end
/-! ### the keys -/
open Classical in
/-- f's key of d, where f leaves the store as it is -/
noncomputable def kyOf (f : Fn) (S : Sto) (d : D) : Option PyData := match f [.d d] S with
  | some (r, S') => if S' = S then rtKey r else none
  | none => none
noncomputable def kyG (f : Fn) (S : Sto) (d : D) : PyData := (kyOf f S d).getD .none
structure KeysOk (f : Fn) (S : Sto) (ds : List D) : Prop where
  ok : ∀ d ∈ ds, ∃ k, kyOf f S d = some k
  al : AllAlike (ds.map (kyG f S))
  so : Sortable (ds.map (kyG f S))
  dp : ∀ d ∈ ds, (kyG f S d).depth ≤ 60
open Classical in
noncomputable def gSortK (f : Fn) (r : R) : M R := fun e S => (seqOf r e S).bind fun ds => if KeysOk f S ds then some (.new (.lst (ds.mergeSort (dataLe false (kyG f S)))), e, S) else none
theorem gSortK_eq {f : Fn} {r : R} {e : En} {S : Sto} {z : R × En × Sto} (h : gSortK f r e S = some z) : ∃ ds, seqOf r e S = some ds ∧ KeysOk f S ds ∧ z = (.new (.lst (ds.mergeSort (dataLe false (kyG f S)))), e, S) := by
  obtain ⟨ds, h1, h2⟩ := Option.bind_eq_some_iff.mp h
  split at h2
  · cases h2; exact ⟨ds, h1, by assumption, rfl⟩
  · cases h2
theorem wp_sortK {f : Fn} {r : R} {e : En} {S : Sto} {Q : R → En → Sto → Prop} : Wp (gSortK f r) e S Q ↔ ∃ ds, seqOf r e S = some ds ∧ KeysOk f S ds ∧ Q (.new (.lst (ds.mergeSort (dataLe false (kyG f S))))) e S := by
  constructor
  · rintro ⟨a, e', S', h, q⟩
    obtain ⟨ds, h1, h2, h3⟩ := gSortK_eq h
    cases h3
    exact ⟨ds, h1, h2, q⟩
  · rintro ⟨ds, h1, h2, q⟩
    exact ⟨_, _, _, by unfold gSortK; rw [h1]; simp only [Option.bind_some, if_pos h2], q⟩
/-! ### the rule -/
section
variable {X : Cx} {k : Nat} {q : Addr} {fd : FuncData} {ps : List Str} {f : Fn}
theorem paired_get {α β : Type} {R : α → β → Prop} : ∀ {l : List α} {m : List β} {i : Nat} {b : β}, Paired R l m → m[i]? = some b → ∃ a, l[i]? = some a ∧ R a b
  | _, _, _, _, .nil, h => by simp at h
  | _, _, 0, _, .cons r _, h => by simp at h; subst h; exact ⟨_, rfl, r⟩
  | _, _, i + 1, _, .cons _ t, h => by
    obtain ⟨a, h1, h2⟩ := paired_get t (by simpa using h)
    exact ⟨a, by simpa using h1, h2⟩
theorem RDs.get' {K : PySem.W.Frag} {H : Hp} {ι : List Addr} : ∀ {vs : List V} {ds : List D} {i : Nat} {v : V}, RDs K H ι vs ds → vs[i]? = some v → ∃ d, ds[i]? = some d ∧ RD K H ι v d
  | _, _, _, _, .nil, h => by simp at h
  | _, _, 0, _, .cons r _, h => by simp at h; subst h; exact ⟨_, rfl, r⟩
  | _, _, i + 1, _, .cons _ t, h => by
    obtain ⟨a, h1, h2⟩ := RDs.get' t (by simpa using h)
    exact ⟨a, by simpa using h1, h2⟩
/-- what leads over the calls -/
def JK (X : Cx) (pins : List (Addr × PySem.Obj)) (σ : SV) (H : Hp) (ι : List Addr) (S : Sto) (f : Fn) (ds : List D) (a c : Addr) (i : Nat) (ks : List Value) (t : Shared) : Prop :=
  ∃ H' ι' va na vc nc vs, Inv X pins σ H' t ∧ H' a = some (exa a (seqObj "list" va na)) ∧ H' c = some (exa c (seqObj "list" vc nc)) ∧ RelS X.K H' ι' S ∧ PostC H ι H' ι' ∧ Vals vs ks ∧ EachIs (fun v d => ∃ r, f [.d d] S = some (r, S) ∧ RKy X.K H' ι' v r) vs (ds.take i)
theorem each_vals {R : V → D → Prop} {T : Value → PyData → Prop} {kf : D → PyData} (go : ∀ v u d, R v d → RelV v u → T u (kf d)) : ∀ {vs : List V} {us : List Value} {ds : List D}, Vals vs us → EachIs R vs ds → EachIs T us (ds.map kf)
  | [], _, _, .nil, .nil => .nil
  | _ :: _, _, _, .cons r rs, .cons h hs => .cons (go _ _ _ h r) (each_vals go rs hs)
theorem each_mem' {α β : Type} {R : α → β → Prop} : ∀ {as : List α} {bs : List β}, EachIs R as bs → EachIs (fun a b => R a b ∧ b ∈ bs) as bs
  | _, _, .nil => .nil
  | _, _, .cons h t => .cons ⟨h, by simp⟩ ((each_mem' t).mono fun _ _ z => ⟨z.1, List.mem_cons_of_mem _ z.2⟩)
theorem each_vd {K : PySem.W.Frag} {H : Hp} {ι : List Addr} : ∀ {vs : List V} {us : List Value} {ds : List D}, Vals vs us → RDs K H ι vs ds → EachIs (fun u (b : V × D) => RelV b.1 u ∧ RD K H ι b.1 b.2) us (vs.zip ds)
  | _, _, [], rv, .nil => by cases rv; exact .nil
  | _, _, _ :: _, .cons r rs, .cons h hs => .cons ⟨r, h⟩ (each_vd rs hs)
theorem of_each_vd {K : PySem.W.Frag} {H : Hp} {ι : List Addr} : ∀ {us : List Value} {bs : List (V × D)}, EachIs (fun u (b : V × D) => RelV b.1 u ∧ RD K H ι b.1 b.2) us bs → Vals (bs.map (·.1)) us ∧ RDs K H ι (bs.map (·.1)) (bs.map (·.2))
  | _, _, .nil => ⟨.nil, .nil⟩
  | _, _, .cons h t => let ⟨a, b⟩ := of_each_vd t; ⟨.cons h.1 a, .cons h.2 b⟩
end
end G

set_option Elab.async false
set_option linter.all false
set_option maxRecDepth 1000000
set_option maxHeartbeats 4000000
/-! GB: dicts: comprehensions, d[k] = v, k in d, d.pop(k), list(d.values()). -/
namespace G
variable [Wld]
open PySem PySem.Spec PyProof.Rows L2
section
variable {K : PySem.W.Frag} {H : Hp} {ι : List Addr} {σ : SV} {e : En} {S : Sto} {v : V} {r : R}
def dropD (kvs : List (Key × D)) (k : Key) : List (Key × D) := kvs.filter fun kv => decide (kv.1 ≠ k)
theorem RK.drop {ws : List (Key × V)} {kvs : List (Key × D)} (h : RK K H ι ws kvs) (k : Key) : RK K H ι (dropK ws k) (dropD kvs k) := by
  induction h with
  | nil => exact .nil
  | cons h1 _ ih =>
    rename_i p q _ _ _
    unfold dropK dropD
    by_cases hk : q.1 = k
    · rw [List.filter_cons_of_neg (by simp [h1.1, hk]), List.filter_cons_of_neg (by simp [hk])]; exact ih
    · rw [List.filter_cons_of_pos (by simp [h1.1, hk]), List.filter_cons_of_pos (by simp [hk])]; exact .cons h1 ih
theorem RK.len {ws : List (Key × V)} {kvs : List (Key × D)} (h : RK K H ι ws kvs) : ws.length = kvs.length := Paired.length h
theorem putD_len (kvs : List (Key × D)) (k : Key) (d : D) : (putD kvs k d).length ≤ kvs.length + 1 := by
  unfold putD
  split <;> simp
theorem mergeD_len : ∀ (more kvs : List (Key × D)), (mergeD kvs more).length ≤ kvs.length + more.length
  | [], kvs => by simp [mergeD]
  | p :: more, kvs => by
    have h := mergeD_len more (putD kvs p.1 p.2)
    have h2 := putD_len kvs p.1 p.2
    have e : mergeD kvs (p :: more) = mergeD (putD kvs p.1 p.2) more := rfl
    rw [e, List.length_cons]
    omega
theorem prsOf_append : ∀ {xs ys : List D} {all : List (Key × D)}, prsOf (xs ++ ys) = some all → ∃ a b, prsOf xs = some a ∧ prsOf ys = some b ∧ all = a ++ b
  | [], ys, all, h => ⟨[], all, rfl, h, rfl⟩
  | x :: xs, ys, all, h => by
    rw [List.cons_append] at h
    unfold prsOf at h
    split at h
    · rename_i hh; cases hh
    · rename_i kd vd ds' hh
      cases hh
      obtain ⟨k, hk, h⟩ := Option.bind_eq_some_iff.mp h
      obtain ⟨cs, e1, e2⟩ := Option.map_eq_some_iff.mp h
      subst e2
      obtain ⟨a, b, e3, e4, rfl⟩ := prsOf_append e1
      refine ⟨(k, vd) :: a, b, ?_, e4, rfl⟩
      unfold prsOf
      rw [hk, e3]; rfl
    · cases h
end
/-! ### comprehensions -/
def mKV (mk mv : M R) : M R := bnd mk fun k => bnd mv fun x => match k, x with
  | .d k, .d x => pur (.d (.tup [k, x]))
  | _, _ => stk
noncomputable def mDc (vs : List Nat) (t : Tgt) (mi : M Src) (c : M Bool) (mk mv : M R) : M R := bnd mi fun src => bnd (fun e S => compL vs t c (mKV mk mv) src.ws src.items (wipeE e vs) S) fun ys e S => (prsOf ys).map fun kvs => (.new (.dct (mergeD [] kvs)), e, S)
section
variable {X : Cx} {kx vx tg iter : Expr} {ifs : List Expr} {scope : Scope} {own : List (Str × Nat)} {pos : Pos} {mi : M Src} {t : Tgt} {mc : M Bool} {mk mv : M R}
end
section
variable {X : Cx} {o i value e : Expr} {pos pos' apos cpos mpos p : Pos} {mo mi mv mk : M R}
/-! ### d[k] = v -/
def setK (ro ri : R) (x : D) : M Fl := fun e S => match ri with
  | .d y => (match look ro e S with
    | some (.dct kvs) => (keyOf y).bind fun k => if isW ro && decide (kvs.length < 1000000) then some (.nx, putE ro (.dct (putD kvs k x)) e, putS ro (.dct (putD kvs k x)) S) else none
    | _ => none)
  | _ => none
theorem setK_eq {ro ri : R} {x : D} {e : En} {S : Sto} {z} (h : setK ro ri x e S = some z) : ∃ kvs y k, look ro e S = some (.dct kvs) ∧ ri = .d y ∧ keyOf y = some k ∧ isW ro = true ∧ kvs.length < 1000000 ∧ z = (.nx, putE ro (.dct (putD kvs k x)) e, putS ro (.dct (putD kvs k x)) S) := by
  unfold setK at h
  split at h
  · split at h
    · obtain ⟨k, h1, h2⟩ := Option.bind_eq_some_iff.mp h
      split at h2
      · rename_i hc
        simp only [Bool.and_eq_true, decide_eq_true_eq] at hc
        exact ⟨_, _, k, by assumption, rfl, h1, hc.1, hc.2, (Option.some.inj h2).symm⟩
      · cases h2
    · cases h
  · cases h
def mSetK (mv mo mi : M R) : M Fl := bnd mv fun v => match v with
  | .d x => bnd mo fun o => bnd mi fun i => setK o i x
  | _ => stk
/-! ### k in d -/
def gInD (neg : Bool) (rx ry : R) : M R := fun e S => match rx with
  | .d y => (match look ry e S with
    | some (.dct kvs) => (keyOf y).map fun k => (.d (.bl ((valD kvs k).isSome != neg)), e, S)
    | _ => none)
  | _ => none
theorem gInD_eq {neg : Bool} {rx ry : R} {e : En} {S : Sto} {z : R × En × Sto} (h : gInD neg rx ry e S = some z) : ∃ kvs y k, rx = .d y ∧ look ry e S = some (.dct kvs) ∧ keyOf y = some k ∧ z = (.d (.bl ((valD kvs k).isSome != neg)), e, S) := by
  unfold gInD at h
  split at h
  · split at h
    · obtain ⟨k, h1, h2⟩ := Option.map_eq_some_iff.mp h
      exact ⟨_, _, k, rfl, by assumption, h1, h2.symm⟩
    · cases h
  · cases h
/-! ### d.pop(k) -/
def gDPop (rx ry : R) : M R := fun e S => match ry with
  | .d y => (match look rx e S with
    | some (.dct kvs) => (keyOf y).bind fun k => (valD kvs k).bind fun d => if isW rx then some (.d d, putE rx (.dct (dropD kvs k)) e, putS rx (.dct (dropD kvs k)) S) else none
    | _ => none)
  | _ => none
theorem gDPop_eq {rx ry : R} {e : En} {S : Sto} {z : R × En × Sto} (h : gDPop rx ry e S = some z) : ∃ kvs y k d, ry = .d y ∧ look rx e S = some (.dct kvs) ∧ keyOf y = some k ∧ valD kvs k = some d ∧ isW rx = true ∧ z = (.d d, putE rx (.dct (dropD kvs k)) e, putS rx (.dct (dropD kvs k)) S) := by
  unfold gDPop at h
  split at h
  · split at h
    · obtain ⟨k, h1, h2⟩ := Option.bind_eq_some_iff.mp h
      obtain ⟨d, h3, h4⟩ := Option.bind_eq_some_iff.mp h2
      split at h4
      · exact ⟨_, _, k, d, rfl, by assumption, h1, h3, by assumption, (Option.some.inj h4).symm⟩
      · cases h4
    · cases h
  · cases h
def mDPop (mo mk : M R) : M R := bnd mo fun x => bnd (chkD x) fun _ => bnd mk fun y => gDPop x y
/-! ### list(d.values()) -/
def rVals : V → List V → Hp → VK → Prop := fun x xs H Q => ∃ a kvs, x = .ref a ∧ xs = [] ∧ Rd H a (.dK kvs) ∧ ∀ p, H p = none → Q (.ref p) (upd H p (viewO "dict_values" p a))
def notDic : R → Bool
  | .d (.dic _ _) => false
  | _ => true
def gVals (r : R) : M R := fun e S => match look r e S with
  | some (.dct kvs) => if notDic r = true then some (.new (.lst (kvs.map (·.2))), e, S) else none
  | _ => none
end
end G

set_option Elab.async false
set_option linter.all false
set_option maxRecDepth 1000000
set_option maxHeartbeats 4000000
/-! GC: enumerate of a list, of a tuple. -/
namespace G
variable [Wld]
open PySem PySem.Spec PyProof.Rows L2
/-- enumerate.__new__ of what begins a walk -/
theorem enumNew {v : Value} {o : PySem.Obj} {P : Heap → Prop} (B : Begins v o P) : Meets (Builtin.«enumerate.__new__» ⟨[.type "enumerate", v], []⟩) (fun _ R s => P s.heap ∧
      R (.ok (.ret (.ref (s.heap.push o).objs.size))) { s with heap := (s.heap.push o).push { cls := .type "enumerate", data := .fields #[.none, .bool false, .ref s.heap.objs.size, rawInt 0, .none, .none] } }) := .of_wp fun prog w A R s h => by
  obtain ⟨g, ge, dr, tk, os⟩ := s
  obtain ⟨hP, hR⟩ := h
  have se := sub_enumerate
  have it : ∀ {A' : Around} {E : Value → Shared → Prop} {Q : Value → Shared → Prop}, Q (.ref g.objs.size) ⟨g.push o, ge, dr, tk, os⟩ → wpAny (model prog w) A' (pyIter v) Q E ⟨g, ge, dr, tk, os⟩ := fun q => B.iter prog w _ _ ⟨g, ge, dr, tk, os⟩ _ hP q
  wp_walk using it
  refine wpAny_stack_any fun st => wpAny_pure ?_
  split
  · rename_i c _ _ _ _ _
    cases (c == Value.type "enumerate") <;> (wp_walk using it; exact ⟨_, rfl, hR⟩)
  · wp_walk using it
    exact ⟨_, rfl, hR⟩
section
variable {prog : Program} {w : World} {A : Around} {E : Value → Shared → Prop} {s : Shared}
theorem callEnum {v : Value} {o : PySem.Obj} {P : Heap → Prop} {Q : Value → Shared → Prop} (B : Begins v o P) (h1 : P s.heap)
    (h : ∀ g, IsEnum g (s.heap.objs.size + 1) s.heap.objs.size 0 .none → g.get? s.heap.objs.size = some o → g.objs.size = s.heap.objs.size + 2 → (∀ b u, s.heap.get? b = some u → g.get? b = some u) → Q (.ref (s.heap.objs.size + 1)) { s with heap := g }) :
    wpAny (model prog w) A (call (.type "enumerate") [v]) Q E s := by
  refine callType_new F.called_enumerate (by decide) (F.typeCall_enumerate_1 _) (F.newCall_enumerate_1 _) (fun obj => F.args_object_init_2 obj _) F.entry_enumerate_new (enumNew B) ⟨h1, ?_⟩
  have hz : (s.heap.push o).objs.size = s.heap.objs.size + 1 := Heap.size_push ..
  show _ ∧ _
  rw [hz]
  have e1 := Heap.get?_push_size (s.heap.push o) (o := { cls := .type "enumerate", data := .fields #[.none, .bool false, .ref s.heap.objs.size, rawInt 0, .none, .none] }) rfl
  rw [hz] at e1
  exact ⟨⟨_, e1, rfl⟩, h _ e1 (Heap.get?_push_of_some _ (Heap.get?_push_size _ B.free)) (by rw [Heap.size_push, hz]) fun b u x => Heap.get?_push_of_some _ (Heap.get?_push_of_some _ x)⟩
theorem enumEndT {e it t : Addr} {i : Nat} {items : Array Value} {old : Value} {c : Int} {Q : Option Value → Shared → Prop} (hh : A.handled = none) (he : IsEnum s.heap e it c old) (hi : s.heap.IsTupleIter it t i) (ht : s.heap.IsTuple t items) (hx : items[i]? = none)
    (hQ : ∀ g, Heap.ExtBut it s.heap g → Q none { s with heap := g }) : wpAny (model prog w) A (pyNext (.ref e)) Q E s := by
  have hT : s.TypeIs (.ref e) "enumerate" := ⟨_, he, rfl⟩
  unfold pyNext
  refine wpAny_bind (wpAny_attempt (wpAny_callSpecial?_slot (name := Str.ofString "__next__") hT F.slot_enumerate_next (wpAny_call_entry F.slot_enumerate_next hT F.entry_enumerate_next ?_ (F.args_enumerate_next_1 _))))
  show wpAny _ _ (field (.ref e) 2 >>= _) _ _ _
  refine wpAny_bind (wpAny_field he rfl (x := .ref it) rfl ?_)
  refine wpAny_bind (wpAny_nextOf_tuple_end (show A.in1.handled = none from hh) hi ht hx fun g x h1 h2 => ?_)
  obtain ⟨o, ho, hc⟩ := h2
  exact wpAny_bind (wpAny_isInstance (T := "StopIteration") (b := true) ⟨o, ho, hc⟩ isSubtype_stop (wpAny_pure (hQ _ h1)))
end
/-- the tuple at a, each item in a new pair -/
def Iten (K : PySem.W.Frag) (a : Addr) : It :=
  ⟨fun i H => ∃ (xs : List V) (x : V), SqT K H a xs ∧ xs[i]? = some x, fun i H v H' => ∃ T x, v = .ref T ∧ H T = none ∧ H' = upd H T (.tup [.int (i : Nat), x]) ∧ ∀ xs, SqT K H a xs → xs[i]? = some x, fun i H => ∃ xs : List V, SqT K H a xs ∧ xs.length ≤ i⟩
theorem turnEnumT {P : Program} {w : World} {K : PySem.W.Frag} {elts : List Expr} {kk : Nat} {tpos : Pos} (a e it : Addr) :
    Turn P w K (.Tuple elts kk tpos) (Iten K a) [e, it] e (fun i h => (∃ old, IsEnum h e it ((i : Nat) : Int) old) ∧ h.IsTupleIter it a i ∧ e ≠ it ∧ e ≠ a ∧ it ≠ a) where
  mem := by simp
  obj := fun i h st b hb => by
    obtain ⟨⟨old, he⟩, ⟨o, ho, hc, hd⟩, _⟩ := st
    have eb : b = e ∨ b = it := by simpa using hb
    rcases eb with z | z
    · rw [z]; exact ⟨_, he, fun v q => nomatch q⟩
    · rw [z]; exact ⟨o, ho, fun v q => by rw [hd] at q; cases q⟩
  keep := fun i h h' st k => let ⟨⟨old, he⟩, hi, hne⟩ := st; ⟨⟨old, k e (by simp) _ he⟩, hi.at fun o q => k it (by simp) o q, hne⟩
  item := by
    intro X hP hw hK hc i pins s σ H E I hf st hg
    subst hP hw hK
    obtain ⟨⟨old, he⟩, hit, hne, hea, hia⟩ := st
    obtain ⟨xs, x, hq, hx⟩ := hg
    obtain ⟨its, rv, p, hz⟩ := I.tuple hq
    obtain ⟨u, hu, ru⟩ := rv.get hx
    have hel : e < s.heap.objs.size := Heap.lt_size he
    have hil : it < s.heap.objs.size := by obtain ⟨_, q, _⟩ := hit; exact Heap.lt_size q
    have hlt : i < its.toArray.size := by
      have := (List.getElem?_eq_some_iff.mp hu).1
      simpa using this
    have hD := Draws.tuple (prog := X.prog) (w := X.w) (A := X.A.in1) (show X.A.in1.handled = none from I.ok.hd hc) it a hia.symm its.toArray
    refine wpAny_pyNext_enum_itemD hD he ⟨hit, p⟩ hlt hne (by simp [hne, hea]) fun y h' tk hy ho hst' hT hsz hk => ?_
    have ey : y = u := by
      have z : its.toArray[i]? = some u := by simpa using hu
      rw [z] at hy; exact (Option.some.inj hy).symm
    subst ey
    refine ⟨_, rfl, wpAny_letOwnedTupleGo_enum (s := { s with heap := h', toks := tk + 1 }) ho fun h'' he' sb => ?_⟩
    have hT2 : h''.get? s.heap.objs.size = some { cls := .type "tuple", data := .seq #[.int i tk, y] } := (sb.2 _ (Nat.ne_of_gt hel)).trans hT
    have new : ObjOk X.prog X.w (upd H s.heap.objs.size (.tup [.int (i : Nat), x])) h'' s.heap.objs.size (.tup [.int (i : Nat), x]) :=
      ⟨by show 2 ≤ sizeLine; decide, [.int i tk, y], .cons ⟨_, rfl⟩ (.cons ru .nil), ⟨_, hT2, rfl, _, rfl⟩⟩
    have I1 : Inv X pins σ (upd H s.heap.objs.size (.tup [.int (i : Nat), x])) { s with heap := h'', toks := tk + 1 } :=
      I.turnedNew (ch := [e, it]) (fun b ob hb q => (sb.2 b (fun z => hb (by simp [z]))).trans (hk b ob (fun z => hb (by simp [z])) (fun z => hb (by simp [z])) q)) hf (Nat.le_refl _) new
    refine ⟨.ref s.heap.objs.size, _, I1, rfl, ⟨_, x, rfl, I.hok.fresh (Nat.le_refl _), rfl, fun ys hy => by rw [I.tuple_inj hy hq]; exact hx⟩, ⟨⟨y, ?_⟩, hst'.1.at fun o q => (sb.2 it (Ne.symm hne)).trans q, hne, hea, hia⟩, fun b hb => ?_⟩
    · have e1 : ((i + 1 : Nat) : Int) = (i : Int) + 1 := by omega
      rw [e1]; exact he'
    · have hb' : b < s.heap.objs.size := by
        have eb : b = e ∨ b = it := by simpa using hb
        rcases eb with z | z
        · rw [z]; exact hel
        · rw [z]; exact hil
      rw [upd_ne (Nat.ne_of_lt hb')]
      exact (hf b hb).1
  done := by
    intro X hP hw hK hc i pins s σ H E I hf st hg
    subst hP hw hK
    obtain ⟨⟨old, he⟩, hit, hne, hea, hia⟩ := st
    obtain ⟨xs, hq, hx⟩ := hg
    obtain ⟨its, rv, p, hz⟩ := I.tuple hq
    obtain ⟨f0, f1, f2, f3, f4, f5⟩ := hf it (by simp)
    have hl := rv.length
    exact enumEndT (I.ok.hd hc) he hit p (by simp; omega) fun h' eb => ⟨rfl, I.turned (t' := s.toks) (fun b o hb q => eb b o hb q) f0 f1 f3 f4 f5⟩
  self := fun A i s Q E st h => let ⟨⟨_, he⟩, _⟩ := st; wpAny_pyIter_enum he h
def iEnumT (K : PySem.W.Frag) (ta : TA) : TI := fun σ H R => ta σ H fun vs H1 => ∃ a xs, vs = [.ref a] ∧ SqT K H1 a xs ∧ R (Iten K a) H1
theorem pi_enumT {X : Cx} {e : Expr} {ta : TA} {p pos tpos : Pos} {elts : List Expr} {kk : Nat} (hg : Gl X "enumerate") (hm : X.mg "enumerate" = none) (ha : PA X [e] ta) (hs : starEach [e] X.env = [(false, eval e X.env)] := by rfl) :
    PI X (.Tuple elts kk tpos) (.Call (.Name "enumerate" p) [e] [] pos) (iEnumT X.K ta) := by
  refine ⟨fun pins s σ H R I h => ?_⟩
  refine Call_ (ld_blt I hg hm boot_enumerate (PyProof.Rows.callWith_type1 (thn (ha.run pos pins s σ H _ I h) fun us s1 ⟨vs, H1, I1, r1, q1⟩ => ?_) hs rfl))
  obtain ⟨a, xs, ex, hq, q⟩ := q1
  subst ex
  cases r1 with
  | cons r rr =>
    cases rr
    cases r
    obtain ⟨its, rv, p', hz⟩ := I1.tuple hq
    have al : a < s1.heap.objs.size := p'.lt
    refine callEnum (begins_tuple a its.toArray) p' fun h' he hit hsz hk => wpAny_pyIter_enum he ?_
    have I2 : Inv X pins σ H1 { s1 with heap := h' } := I1.kept (t' := s1.toks) hk
    refine ⟨s1.heap.objs.size + 1, [s1.heap.objs.size + 1, s1.heap.objs.size], _, _, H1, rfl, I2, turnEnumT a (s1.heap.objs.size + 1) s1.heap.objs.size, ⟨⟨.none, he⟩, ⟨_, hit, rfl, rfl⟩, Nat.succ_ne_self _, Nat.ne_of_gt (Nat.lt_succ_of_lt al), Nat.ne_of_gt al⟩, fun b hb => ?_, q⟩
    have eb : b = s1.heap.objs.size + 1 ∨ b = s1.heap.objs.size := by simpa using hb
    have hle : s1.heap.objs.size ≤ b := by
      rcases eb with z | z
      · rw [z]; exact Nat.le_add_right _ _
      · rw [z]; exact Nat.le_refl _
    exact I1.fpOk hle (I1.hok.fresh hle)
def enumD (ds : List D) : List D := ds.zipIdx.map fun p => .tup [.int (p.2 : Nat), p.1]
theorem enum_get {ds : List D} {i : Nat} {d : D} (h : (enumD ds)[i]? = some d) : ∃ x, ds[i]? = some x ∧ d = .tup [.int (i : Nat), x] := by
  unfold enumD at h
  rw [List.getElem?_map, List.getElem?_zipIdx] at h
  obtain ⟨p, hp, rfl⟩ := Option.map_eq_some_iff.mp h
  obtain ⟨x, hx, rfl⟩ := Option.map_eq_some_iff.mp hp
  exact ⟨x, hx, by simp⟩
theorem enum_len (ds : List D) : (enumD ds).length = ds.length := by simp [enumD]
def srcEnum (rs : List R) : M Src := fun e S => match rs with
  | [r] => (srcOf r e S).map fun z => (⟨enumD z.1.items, z.1.ws⟩, e, S)
  | _ => none
theorem gi_enum {X : Cx} {a : Expr} {p pos : Pos} {ms : M (List R)} {elts : List Expr} {kk : Nat} {tpos : Pos} (hg : Gl X "enumerate") (hm : X.mg "enumerate" = none) (ha : GA X [a] ms) (hs : starEach [a] X.env = [(false, eval a X.env)] := by rfl) :
    GI X (.Tuple elts kk tpos) (.Call (.Name "enumerate" p) [a] [] pos) (bnd ms srcEnum) :=
  PI.imp (PI.bd (PI.or (pi_enum hg hm ha hs) (pi_enumT hg hm ha hs))) fun σ H Q q => by
    obtain ⟨ι, e, S, src, e', S', R, hm, q⟩ := q
    obtain ⟨rs, e1, S1, h1, hm⟩ := bnd_eq hm
    unfold srcEnum at hm
    split at hm
    case h_2 => cases hm
    rename_i ra
    obtain ⟨⟨s1, e2, S2⟩, g1, hz⟩ := Option.map_eq_some_iff.mp hm
    cases hz
    by_cases ht : isTupR ra = true
    · refine .inr ⟨ι, e, S, _, _, _, R, h1, fun vs H1 ι1 R1 P1 r1 => ?_⟩
      cases r1 with
      | cons ka kb =>
        cases kb
        obtain ⟨_, _, a, rfl, ta, la, wa⟩ := R1.walks ka g1
        have fa := ta (isTupR_iff.mp ht)
        obtain ⟨xs, hxs, rxs⟩ := fa H1 ι1 σ _ _ R1 .refl wa fun _ _ _ _ => rfl
        have hxs' : SqT X.K H1 a xs := hxs
        refine ⟨a, xs, rfl, hxs', fun bd => q _ H1 ι1 R1 P1 (fun i H ι σ2 e S R P w1 w2 => ?_) ?_⟩
        · obtain ⟨us, h3, h4⟩ := fa H ι σ2 e S R P w1 w2
          have h3' : SqT X.K H a us := h3
          refine ⟨fun d hd => ?_, fun hl => ⟨us, h3', by rw [h4.length]; have hl' : (enumD s1.items).length ≤ i := hl; rw [enum_len] at hl'; exact hl'⟩⟩
          obtain ⟨x, e1, rfl⟩ := enum_get hd
          obtain ⟨vx, e3, rx⟩ := h4.get e1
          refine ⟨⟨us, vx, h3', e3⟩, fun z H' hz => ?_⟩
          obtain ⟨T, x', rfl, hT, rfl, f1⟩ := hz
          have := f1 us h3'; rw [e3] at this; cases this
          obtain ⟨R2, P2, _⟩ := R.new (u := .tup [.int (i : Nat), vx]) hT
          exact ⟨R2, P2, .tup (.inl (.inl upd_same)) (.cons (.int _) (.cons (RD.mono P2.stay P2.pre _ _ rx) .nil)), fun c o h => by rw [upd_ne (ne_of_none h hT)]; exact h⟩
        · show (enumD _).length ≤ _
          rw [enum_len, ← rxs.length]
          exact bd a xs (.inr hxs')
    · refine .inl ⟨ι, e, S, _, _, _, R, h1, fun vs H1 ι1 R1 P1 r1 => ?_⟩
      have ht' : ∀ ds, ra ≠ .d (.tup ds) := fun ds z => ht (isTupR_iff.mpr ⟨ds, z⟩)
      cases r1 with
      | cons ka kb =>
        cases kb
        obtain ⟨_, _, a, rfl, ta, la, wa⟩ := R1.walks ka g1
        have fa := la ht'
        obtain ⟨xs, hxs, rxs⟩ := fa H1 ι1 σ _ _ R1 .refl wa fun _ _ _ _ => rfl
        have hxs' : SqL X.K H1 a xs := hxs
        refine ⟨a, xs, rfl, hxs', fun bd => q _ H1 ι1 R1 P1 (fun i H ι σ2 e S R P w1 w2 => ?_) ?_⟩
        · obtain ⟨us, h3, h4⟩ := fa H ι σ2 e S R P w1 w2
          have h3' : SqL X.K H a us := h3
          refine ⟨fun d hd => ?_, fun hl => ⟨us, h3', by rw [h4.length]; have hl' : (enumD s1.items).length ≤ i := hl; rw [enum_len] at hl'; exact hl'⟩⟩
          obtain ⟨x, e1, rfl⟩ := enum_get hd
          obtain ⟨vx, e3, rx⟩ := h4.get e1
          refine ⟨⟨us, vx, h3', e3⟩, fun z H' hz => ?_⟩
          obtain ⟨T, x', rfl, hT, rfl, f1⟩ := hz
          have := f1 us h3'; rw [e3] at this; cases this
          obtain ⟨R2, P2, _⟩ := R.new (u := .tup [.int (i : Nat), vx]) hT
          exact ⟨R2, P2, .tup (.inl (.inl upd_same)) (.cons (.int _) (.cons (RD.mono P2.stay P2.pre _ _ rx) .nil)), fun c o h => by rw [upd_ne (ne_of_none h hT)]; exact h⟩
        · show (enumD _).length ≤ _
          rw [enum_len, ← rxs.length]
          exact bd a xs (.inl hxs')
end G

set_option Elab.async false
set_option linter.all false
set_option maxRecDepth 1000000
set_option maxHeartbeats 4000000
/-! GF: sorted(texts); what is never reached; the calculus of GA, GB, GC. -/
namespace G
variable [Wld]
open PySem PySem.Spec PyProof.Rows L2
def gSortS (r : R) : M R := fun e S => (lstOf r e S).bind fun ds => (strsOf ds).bind fun xs => if xs.length < 64 then some (.new (.lst ((srtS xs).map D.str)), e, S) else none
theorem gSortS_eq {r : R} {e : En} {S : Sto} {z : R × En × Sto} (h : gSortS r e S = some z) : ∃ ds xs, lstOf r e S = some ds ∧ strsOf ds = some xs ∧ xs.length < 64 ∧ z = (.new (.lst ((srtS xs).map D.str)), e, S) := by
  obtain ⟨ds, h1, h2⟩ := Option.bind_eq_some_iff.mp h
  obtain ⟨xs, h3, h4⟩ := Option.bind_eq_some_iff.mp h2
  split at h4
  · cases h4; exact ⟨ds, xs, h1, h3, by assumption, rfl⟩
  · cases h4
def g2I (f : Int → Int → Int) (rs : List R) : M R := match rs with
  | [.d (.int i), .d (.int j)] => pur (.d (.int (f i j)))
  | _ => stk
theorem g2I_of {X : Cx} {f : Int → Int → Int} {id : String} (h : CallR X (.builtin id) (fun xs H Q => ∃ i j, xs = [.int i, .int j] ∧ Q (.int (f i j)) H)) : CallR X (.builtin id) (tOA X.K (g2I f)) := CallR.imp h fun xs H Q q => by
  obtain ⟨ι, σ, e, S, rs, r, e', S', R, hr, hm, q⟩ := q
  unfold g2I at hm
  split at hm
  · cases hm
    cases hr with | cons h1 h2 =>
    cases h2 with | cons h2 h3 =>
    cases h3
    cases h1
    cases h2
    exact ⟨_, _, rfl, q _ H ι R .refl (.int _) trivial⟩
  · cases hm
def max2 (i j : Int) : Int := if j > i then j else i
def min2 (i j : Int) : Int := if j < i then j else i
theorem cg_min2 {X : Cx} (hc : X.calm = true) : CallR X (.builtin "min") (tOA X.K (g2I min2)) := g2I_of (call_min2 hc)
section
variable {e : En} {S : Sto} {Q : R → En → Sto → Prop}
theorem wp_sortS {r : R} : Wp (gSortS r) e S Q ↔ ∃ ds, lstOf r e S = some ds ∧ ∃ xs, strsOf ds = some xs ∧ xs.length < 64 ∧ Q (.new (.lst ((srtS xs).map D.str))) e S := by
  constructor
  · rintro ⟨a, e', S', h, q⟩
    obtain ⟨ds, xs, h1, h2, h3, hz⟩ := gSortS_eq h
    cases hz
    exact ⟨ds, h1, xs, h2, h3, q⟩
  · rintro ⟨ds, h1, xs, h2, h3, q⟩
    exact ⟨_, _, _, by unfold gSortS; rw [h1]; simp only [Option.bind_some, h2, if_pos h3], q⟩
theorem wp_inD {neg : Bool} {y : D} {ry : R} : Wp (gInD neg (.d y) ry) e S Q ↔ ∃ kvs, look ry e S = some (.dct kvs) ∧ ∃ k, keyOf y = some k ∧ Q (.d (.bl ((valD kvs k).isSome != neg))) e S := by
  constructor
  · rintro ⟨a, e', S', h, q⟩
    obtain ⟨kvs, y', k, h1, h2, h3, hz⟩ := gInD_eq h
    cases h1; cases hz
    exact ⟨kvs, h2, k, h3, q⟩
  · rintro ⟨kvs, h2, k, h3, q⟩
    exact ⟨_, _, _, by unfold gInD; simp only [h2, h3, Option.map_some], q⟩
theorem wp_dpop {rx : R} {y : D} : Wp (gDPop rx (.d y)) e S Q ↔ ∃ kvs, look rx e S = some (.dct kvs) ∧ isW rx = true ∧ ∃ k, keyOf y = some k ∧ ∃ d, valD kvs k = some d ∧ Q (.d d) (putE rx (.dct (dropD kvs k)) e) (putS rx (.dct (dropD kvs k)) S) := by
  constructor
  · rintro ⟨a, e', S', h, q⟩
    obtain ⟨kvs, y', k, d, h1, h2, h3, h4, h5, hz⟩ := gDPop_eq h
    cases h1; cases hz
    exact ⟨kvs, h2, h5, k, h3, d, h4, q⟩
  · rintro ⟨kvs, h2, h5, k, h3, d, h4, q⟩
    exact ⟨_, _, _, by unfold gDPop; simp only [h2, h3, h4, Option.bind_some, if_pos h5], q⟩
theorem wp_setK {ro : R} {y x : D} {Q : Fl → En → Sto → Prop} : Wp (setK ro (.d y) x) e S Q ↔ ∃ kvs, look ro e S = some (.dct kvs) ∧ isW ro = true ∧ kvs.length < 1000000 ∧ ∃ k, keyOf y = some k ∧ Q .nx (putE ro (.dct (putD kvs k x)) e) (putS ro (.dct (putD kvs k x)) S) := by
  constructor
  · rintro ⟨a, e', S', h, q⟩
    obtain ⟨kvs, y', k, h1, h2, h3, h4, h5, hz⟩ := setK_eq h
    cases h2; cases hz
    exact ⟨kvs, h1, h4, h5, k, h3, q⟩
  · rintro ⟨kvs, h1, h4, h5, k, h3, q⟩
    exact ⟨_, _, _, by unfold setK; simp only [h1, h3, Option.bind_some, h4, decide_eq_true h5, Bool.and_self, if_true], q⟩
theorem wp_vals {r : R} : Wp (gVals r) e S Q ↔ ∃ kvs, look r e S = some (.dct kvs) ∧ notDic r = true ∧ Q (.new (.lst (kvs.map (·.2)))) e S := by
  constructor
  · rintro ⟨a, e', S', h, q⟩
    unfold gVals at h
    split at h
    · split at h
      · cases h; exact ⟨_, by assumption, by assumption, q⟩
      · cases h
    · cases h
  · rintro ⟨kvs, h1, h2, q⟩
    exact ⟨_, _, _, by unfold gVals; simp only [h1, if_pos h2], q⟩
theorem wp_g2I {f : Int → Int → Int} {i j : Int} : Wp (g2I f [.d (.int i), .d (.int j)]) e S Q ↔ Q (.d (.int (f i j))) e S := wp_pur
theorem notDic_new {o : O} : notDic (.new o) = true := rfl
theorem notDic_loc {i : Nat} : notDic (.loc i) = true := rfl
theorem notDic_brw {o : O} : notDic (.brw o) = true := rfl
theorem notDic_ref {n : Nat} : notDic (.d (.ref n)) = true := rfl
end
theorem ev8 : type_of% (And.intro @wp_sortK (And.intro @wp_sortS (And.intro @wp_inD (And.intro @wp_dpop (And.intro @wp_setK (And.intro @wp_vals (And.intro @notDic_new (And.intro @notDic_loc (And.intro @notDic_brw (And.intro @notDic_ref @wp_g2I)))))))))) := And.intro @wp_sortK (And.intro @wp_sortS (And.intro @wp_inD (And.intro @wp_dpop (And.intro @wp_setK (And.intro @wp_vals (And.intro @notDic_new (And.intro @notDic_loc (And.intro @notDic_brw (And.intro @notDic_ref @wp_g2I)))))))))
end G

set_option Elab.async false
set_option linter.all false
set_option maxRecDepth 1000000
set_option maxHeartbeats 4000000
/-! GU: the calculus of GB's, GC's mirrors. -/
namespace G
variable [Wld]
open PySem PySem.Spec PyProof.Rows L2
section
variable {e : En} {S : Sto} {Q : R → En → Sto → Prop} {F : Fl → En → Sto → Prop}
theorem wp_mKV {mk mv : M R} : Wp (mKV mk mv) e S Q ↔ Wp mk e S fun k e1 S1 => Wp mv e1 S1 fun x e2 S2 => ∃ kd, k = .d kd ∧ ∃ xd, x = .d xd ∧ Q (.d (.tup [kd, xd])) e2 S2 := by
  simp only [mKV, wp_bnd]
  constructor
  · rintro ⟨k, e1, S1, h1, x, e2, S2, h2, a, e3, S3, h3, q⟩
    refine ⟨k, e1, S1, h1, x, e2, S2, h2, ?_⟩
    cases k with
    | d kd =>
      cases x with
      | d xd => cases h3; exact ⟨kd, rfl, xd, rfl, q⟩
      | _ => cases h3
    | _ => cases h3
  · rintro ⟨k, e1, S1, h1, x, e2, S2, h2, kd, rfl, xd, rfl, q⟩
    exact ⟨_, e1, S1, h1, _, e2, S2, h2, _, _, _, rfl, q⟩
theorem wp_mDc {vs : List Nat} {t : Tgt} {mi : M Src} {c : M Bool} {mk mv : M R} : Wp (mDc vs t mi c mk mv) e S Q ↔ Wp mi e S fun src e1 S1 => Wp (compL vs t c (mKV mk mv) src.ws src.items) (wipeE e1 vs) S1 fun ys e2 S2 => ∃ kvs, prsOf ys = some kvs ∧ Q (.new (.dct (mergeD [] kvs))) e2 S2 := by
  simp only [mDc, wp_bnd]
  constructor
  · rintro ⟨src, e1, S1, h1, ys, e2, S2, h2, a, e3, S3, h3, q⟩
    obtain ⟨kvs, h4, h5⟩ := Option.map_eq_some_iff.mp h3
    cases h5
    exact ⟨src, e1, S1, h1, ys, e2, S2, h2, kvs, h4, q⟩
  · rintro ⟨src, e1, S1, h1, ys, e2, S2, h2, kvs, h4, q⟩
    exact ⟨src, e1, S1, h1, ys, e2, S2, h2, _, _, _, Option.map_eq_some_iff.mpr ⟨kvs, h4, rfl⟩, q⟩
theorem wp_mSetK {mv mo mi : M R} : Wp (mSetK mv mo mi) e S F ↔ Wp mv e S fun v e1 S1 => ∃ x, v = .d x ∧ Wp mo e1 S1 fun o e2 S2 => Wp mi e2 S2 fun i e3 S3 => Wp (setK o i x) e3 S3 F := by
  simp only [mSetK, wp_bnd]
  constructor
  · rintro ⟨v, e1, S1, h, q⟩
    refine ⟨v, e1, S1, h, ?_⟩
    split at q
    · exact ⟨_, rfl, by simpa using q⟩
    · exact (wp_stk.mp q).elim
  · rintro ⟨v, e1, S1, h, x, rfl, q⟩
    exact ⟨_, e1, S1, h, by simpa using q⟩
theorem wp_mDPop {mo mk : M R} : Wp (mDPop mo mk) e S Q ↔ Wp mo e S fun x e1 S1 => Wp (chkD x) e1 S1 fun _ e2 S2 => Wp mk e2 S2 fun y e3 S3 => Wp (gDPop x y) e3 S3 Q := by simp only [mDPop, wp_bnd]
theorem srcV_ref {n : Nat} {ds : List D} (h : S[n]? = some (.lst ds)) : srcOf (.d (.ref n)) e S = some (⟨ds, [(.d (.ref n), ds)]⟩, e, S) := by simp [srcOf, look, h]
theorem wp_src_ref {n : Nat} {q : Src → En → Sto → Prop} : Wp (srcOf (.d (.ref n))) e S q ↔ ∃ ds, seqL S[n]? = some ds ∧ q ⟨ds, [(.d (.ref n), ds)]⟩ e S := by
  constructor
  · rintro ⟨a, e', S', h, k⟩
    have h' : (match S[n]? with
      | some (.lst ds) => some (⟨ds, [(R.d (.ref n), ds)]⟩, e, S)
      | _ => none) = some (a, e', S') := h
    split at h'
    · cases h'; rename_i ds hh; exact ⟨ds, by rw [hh]; rfl, k⟩
    · cases h'
  · rintro ⟨ds, h, k⟩
    have : S[n]? = some (.lst ds) := by
      cases h3 : S[n]? with
      | none => rw [h3] at h; cases h
      | some o => cases o <;> rw [h3] at h <;> cases h; rfl
    exact ⟨_, _, _, srcV_ref this, k⟩
theorem wp_enum {r : R} {q : Src → En → Sto → Prop} : Wp (srcEnum [r]) e S q ↔ Wp (srcOf r) e S fun s _ _ => q ⟨enumD s.items, s.ws⟩ e S := by
  constructor
  · rintro ⟨a, e', S', h, k⟩
    obtain ⟨⟨s, e1, S1⟩, h1, h2⟩ := Option.map_eq_some_iff.mp (show (srcOf r e S).map _ = _ from h)
    cases h2
    exact ⟨s, e1, S1, h1, k⟩
  · rintro ⟨s, e1, S1, h1, k⟩
    exact ⟨_, _, _, Option.map_eq_some_iff.mpr ⟨_, h1, rfl⟩, k⟩
end
theorem wp_abs {e : En} {S : Sto} {Q : R → En → Sto → Prop} {i : Int} : Wp (gAbs (.d (.int i))) e S Q ↔ Q (.d (.int (if i < 0 then -i else i))) e S := wp_some rfl
theorem ev9 : type_of% (And.intro @wp_mKV (And.intro @wp_mDc (And.intro @wp_mSetK (And.intro @wp_mDPop (And.intro @wp_enum (And.intro @wp_src_ref @wp_abs)))))) := And.intro @wp_mKV (And.intro @wp_mDc (And.intro @wp_mSetK (And.intro @wp_mDPop (And.intro @wp_enum (And.intro @wp_src_ref @wp_abs)))))
end G

set_option Elab.async false
set_option linter.all false
set_option maxRecDepth 100000
set_option maxHeartbeats 4000000
/-! GW: how great a data is, and its text. -/
namespace G
variable [Wld]
open PySem PySem.Spec PyProof.Rows L2
/-! ### texts of ASCII -/
def Asc (x : Str) : Prop := ∀ c ∈ x.cps.toList, c < 128
theorem Asc.app {a b : Str} (h : Asc a) (k : Asc b) : Asc (a ++ b) := fun c hc => by
  have : (a ++ b).cps.toList = a.cps.toList ++ b.cps.toList := by show (a.cps ++ b.cps).toList = _; simp
  rw [this] at hc
  rcases List.mem_append.mp hc with hc | hc
  · exact h c hc
  · exact k c hc
theorem Asc.join {sep : Str} (hs : Asc sep) : ∀ {ts : List Str}, (∀ t ∈ ts, Asc t) → Asc (Str.join sep ts)
  | [], _ => fun c hc => by
    have e : Str.join sep [] = ⟨#[]⟩ := rfl
    rw [e] at hc; simp at hc
  | [x], h => h x (by simp)
  | x :: y :: r, h => ((h x (by simp)).app hs).app (Asc.join hs fun t ht => h t (List.mem_cons_of_mem _ ht))
theorem digitChar_asc (n : Nat) : (Nat.digitChar n).toNat < 128 := by
  have h : ∀ k : Fin 17, (Nat.digitChar k.1).toNat < 128 := by decide +kernel
  by_cases hn : n < 17
  · exact h ⟨n, hn⟩
  · have e : Nat.digitChar n = '*' := by
      unfold Nat.digitChar
      repeat rw [if_neg (by omega)]
    rw [e]; decide
theorem toDigitsCore_asc (b : Nat) : ∀ (f n : Nat) (ds : List Char), (∀ c ∈ ds, c.toNat < 128) → ∀ c ∈ Nat.toDigitsCore b f n ds, c.toNat < 128
  | 0, n, ds, h => by unfold Nat.toDigitsCore; exact h
  | f + 1, n, ds, h => by
    unfold Nat.toDigitsCore
    dsimp only
    have h' : ∀ c ∈ Nat.digitChar (n % b) :: ds, c.toNat < 128 := fun c hc => by
      rcases List.mem_cons.mp hc with rfl | hc
      · exact digitChar_asc _
      · exact h c hc
    split
    · exact h'
    · exact toDigitsCore_asc b f _ _ h'
theorem toDigits_asc (b n : Nat) : ∀ c ∈ Nat.toDigits b n, c.toNat < 128 := toDigitsCore_asc b _ n [] (fun _ h => nomatch h)
theorem asc_ofString {s : String} (h : ∀ c ∈ s.toList, c.toNat < 128) : Asc (Str.ofString s) := by
  rw [congrFun Str.ofString_eq_byList s]
  intro c hc
  simp only [Str.ofStringByList, List.mem_map] at hc
  obtain ⟨d, hd, rfl⟩ := hc
  exact h d hd
theorem asc_int (i : Int) : Asc (Str.ofString (toString i)) := by
  refine asc_ofString ?_
  cases i with
  | ofNat m =>
    have e : toString (Int.ofNat m) = Nat.repr m := rfl
    rw [e]
    unfold Nat.repr
    rw [String.toList_ofList]
    exact toDigits_asc 10 m
  | negSucc m =>
    have e : toString (Int.negSucc m) = "-" ++ Nat.repr (m + 1) := rfl
    rw [e, String.toList_append]
    intro c hc
    rcases List.mem_append.mp hc with hc | hc
    · have : c = '-' := by simpa using hc
      subst this; decide
    · unfold Nat.repr at hc
      rw [String.toList_ofList] at hc
      exact toDigits_asc 10 _ c hc
theorem asc_reprChar {q c : Nat} (hc : c < 128) : ∀ b ∈ Builtin.Str.reprChar q c, b < 128 := by
  have hx : ∀ w : Nat, ∀ b ∈ (List.replicate (w - ((Nat.toDigits 16 c).map Char.toNat).length) 48 ++ (Nat.toDigits 16 c).map Char.toNat), b < 128 := fun w b hb => by
    rcases List.mem_append.mp hb with hb | hb
    · rw [(List.mem_replicate.mp hb).2]; decide
    · obtain ⟨d, hd, rfl⟩ := List.mem_map.mp hb
      exact toDigits_asc 16 c d hd
  unfold Builtin.Str.reprChar
  dsimp only
  repeat' split
  all_goals intro b hb
  all_goals first
    | (simp only [List.mem_cons, List.not_mem_nil, or_false] at hb; omega)
    | (rcases List.mem_append.mp hb with hb | hb
       · simp only [List.mem_cons, List.not_mem_nil, or_false] at hb; omega
       · exact hx _ b hb)
theorem asc_reprText {x : Str} (h : Asc x) : Asc (reprText x) := by
  have hq : reprQuote x < 128 := by unfold reprQuote; split <;> decide
  have go : ∀ (l : List Nat) (acc : Array Nat), (∀ c ∈ l, c < 128) → (∀ c ∈ acc.toList, c < 128) → ∀ c ∈ (l.foldl (fun out c => out ++ (Builtin.Str.reprChar (reprQuote x) c).toArray) acc).toList, c < 128 := by
    intro l
    induction l with
    | nil => intro acc _ h2; exact h2
    | cons c r ih =>
      intro acc h1 h2
      refine ih _ (fun d hd => h1 d (List.mem_cons_of_mem _ hd)) fun d hd => ?_
      simp only [Array.toList_append, List.mem_append] at hd
      rcases hd with hd | hd
      · exact h2 d hd
      · exact asc_reprChar (h1 c (by simp)) d hd
  unfold reprText
  intro c hc
  rw [← Array.foldl_toList, Array.toList_push] at hc
  rcases List.mem_append.mp hc with hc | hc
  · exact go _ _ h (fun c hc => by simp at hc; rw [hc]; exact hq) c hc
  · simp at hc; rw [hc]; exact hq
/-! ### data: small leaves, weight, depth -/
def ascB (x : Str) : Bool := x.cps.toList.all fun c => decide (c < 128)
theorem ascB_iff {x : Str} : ascB x = true ↔ Asc x := by
  unfold ascB Asc
  rw [List.all_eq_true]
  exact ⟨fun h c hc => of_decide_eq_true (h c hc), fun h c hc => decide_eq_true (h c hc)⟩
def keyOkB (N : Nat) : Key → Bool
  | .inl i => decide (i.natAbs ≤ N)
  | .inr x => ascB x
def keyW : Key → Nat
  | .inl _ => 110
  | .inr x => x.length
mutual
/-- numbers of at most N, texts of ASCII -/
def lvB (N L : Nat) : D → Bool
  | .non => true
  | .bl _ => true
  | .int i => decide (i.natAbs ≤ N)
  | .str x => ascB x
  | .tup ds => decide (ds.length ≤ L) && lvsB N L ds
  | .lst ds => decide (ds.length ≤ L) && lvsB N L ds
  | .dic ks ds => ks.all (keyOkB N) && decide (ks.length = ds.length) && lvsB N L ds
  | .ref _ => false
  | .fn _ => false
  | .exc _ _ _ => false
def lvsB (N L : Nat) : List D → Bool
  | [] => true
  | d :: ds => lvB N L d && lvsB N L ds
end
mutual
def wt : D → Nat
  | .int _ => 110
  | .str x => x.length
  | .tup ds => wts ds
  | .lst ds => wts ds
  | .dic ks ds => (ks.map fun k => keyW k + 1).sum + wts ds
  | _ => 0
def wts : List D → Nat
  | [] => 0
  | d :: ds => wt d + 1 + wts ds
end
mutual
def dep : D → Nat
  | .tup ds => deps ds + 1
  | .lst ds => deps ds + 1
  | .dic _ ds => deps ds + 1
  | _ => 0
def deps : List D → Nat
  | [] => 0
  | d :: ds => max (dep d) (deps ds)
end
theorem lvsB_all {N L : Nat} : ∀ ds : List D, lvsB N L ds = ds.all (lvB N L)
  | [] => rfl
  | d :: ds => by rw [lvsB, lvsB_all ds]; rfl
theorem wts_sum : ∀ ds : List D, wts ds = (ds.map fun d => wt d + 1).sum
  | [] => rfl
  | d :: ds => by rw [wts, wts_sum ds]; simp
theorem deps_le {k : Nat} : ∀ {ds : List D}, deps ds ≤ k ↔ ∀ d ∈ ds, dep d ≤ k
  | [] => by simp [deps]
  | d :: ds => by rw [deps, Nat.max_le, deps_le (ds := ds)]; simp
mutual
theorem lv_dat {N L : Nat} : ∀ {d : D}, lvB N L d = true → datB d = true
  | .non, _ => rfl
  | .bl _, _ => rfl
  | .int _, _ => rfl
  | .str _, _ => rfl
  | .tup ds, h => by simp only [datB]; exact lvs_dats (by simp only [lvB, Bool.and_eq_true] at h; exact h.2)
  | .lst ds, h => by simp only [datB]; exact lvs_dats (by simp only [lvB, Bool.and_eq_true] at h; exact h.2)
  | .dic ks ds, h => by simp only [lvB, Bool.and_eq_true] at h; simp only [datB]; exact lvs_dats h.2
  | .ref _, h => by cases h
  | .fn _, h => by cases h
theorem lvs_dats {N L : Nat} : ∀ {ds : List D}, lvsB N L ds = true → datsB ds = true
  | [], _ => rfl
  | d :: ds, h => by simp only [lvsB, Bool.and_eq_true] at h; simp only [datsB, lv_dat h.1, lvs_dats h.2, Bool.and_self]
end
theorem int_shown {N : Nat} {i : Int} (hN : N < 10 ^ 32) (h : i.natAbs ≤ N) : (PyData.int i).leavesShort 33 = true ∧ (PyData.int i).showable = true := by
  have h1 : i.natAbs < 10 ^ 32 := by omega
  have h2 := int_text_length_le10 (k := 32) (by decide) h1
  have h3 : (Str.ofString (toString i)).length ≤ 33 := by rw [PySem.ofString_length]; exact h2
  have h4 : i.natAbs.log2 < 1920 := by
    by_cases h0 : i.natAbs = 0
    · rw [h0]; decide
    · exact (Nat.log2_lt h0).mpr (Nat.lt_of_lt_of_le h1 (Nat.le_trans (by decide : 10 ^ 32 ≤ 2 ^ 110) (Nat.pow_le_pow_right (by decide) (by decide))))
  exact ⟨by simp only [PyData.leavesShort, PyData.shown]; exact decide_eq_true h3, by simp only [PyData.showable, decide_eq_true_eq]; exact h4⟩
theorem int_w {N : Nat} {i : Int} (hN : N < 10 ^ 32) (h : i.natAbs ≤ N) : (PyData.int i).weight ≤ 110 := by
  have h1 : i.natAbs < 10 ^ 32 := by omega
  simp only [PyData.weight]
  split
  · omega
  · rename_i h0
    have h0' : i.natAbs ≠ 0 := fun e => h0 (by have : i = 0 := Int.natAbs_eq_zero.mp e; subst this; rfl)
    have := (Nat.log2_lt (k := 110) h0').mpr (Nat.lt_of_lt_of_le h1 (by decide))
    omega
theorem str_short {x : Str} (h : Asc x) : (PyData.str x).leavesShort 33 = true := by
  simp only [PyData.leavesShort, List.all_eq_true, decide_eq_true_eq]
  exact fun c hc => Nat.lt_trans (h c hc) (by decide)
theorem asc_lit {s : String} (h : (Str.ofString s).cps.toList.all (fun c => decide (c < 128)) = true) : Asc (Str.ofString s) := ascB_iff.mp h
theorem asc_textFrom : ∀ (ts : List Str) (k : Nat) (acc : Str), (∀ t ∈ ts, Asc t) → Asc acc → Asc (textFrom k acc ts)
  | [], _, acc, _, h => h
  | t :: r, k, acc, ht, h => by
    refine asc_textFrom r (k + 1) _ (fun x hx => ht x (List.mem_cons_of_mem _ hx)) ((h.app ?_).app (ht t (by simp)))
    split <;> exact asc_lit (by decide)
theorem asc_list {ts : List Str} (h : ∀ t ∈ ts, Asc t) : Asc (listText ts) := by
  unfold listText
  exact (asc_textFrom ts 0 _ h (asc_lit (by decide))).app (asc_lit (by decide))
theorem asc_tuple {ts : List Str} (h : ∀ t ∈ ts, Asc t) : Asc (tupleText ts) := by
  unfold tupleText
  refine ((show Asc (Str.ofString "(") from asc_lit (by decide)).app (Asc.join (asc_lit (by decide)) h)).app ?_
  split <;> exact asc_lit (by decide)
theorem asc_dict {ts : List Str} (h : ∀ t ∈ ts, Asc t) : Asc (dictText ts) := by
  unfold dictText
  exact ((show Asc (Str.ofString "{") from asc_lit (by decide)).app (Asc.join (asc_lit (by decide)) h)).app (asc_lit (by decide))
/-- what a data is for repr -/
structure Pd (d : D) (p : PyData) : Prop where
  e : pyr d = some p
  l : p.leavesShort 33 = true
  s : p.showable = true
  w : p.weight ≤ wt d
  d : p.depth ≤ dep d
  a : Asc p.shown
structure Pds (ds : List D) (ps : List PyData) : Prop where
  e : pyrs ds = some ps
  l : PyData.leavesShortAll 33 ps = true
  s : PyData.showableAll ps = true
  w : PyData.weightAll ps ≤ wts ds
  d : PyData.depthAll ps ≤ deps ds
  a : ∀ t ∈ PyData.shownAll ps, Asc t
theorem key_pd {N : Nat} (hN : N < 10 ^ 32) {k : Key} (h : keyOkB N k = true) : (keyP k).leavesShort 33 = true ∧ (keyP k).showable = true ∧ (keyP k).weight ≤ keyW k ∧ (keyP k).depth = 0 ∧ Asc (keyP k).shown := by
  cases k with
  | inl i =>
    have h' : i.natAbs ≤ N := of_decide_eq_true h
    obtain ⟨a, b⟩ := int_shown hN h'
    exact ⟨a, b, int_w hN h', by simp only [keyP, PyData.depth], by simp only [keyP, PyData.shown]; exact asc_int i⟩
  | inr x =>
    have h' := ascB_iff.mp h
    exact ⟨str_short h', rfl, Nat.le_refl _, rfl, by simp only [keyP, PyData.shown]; exact asc_reprText h'⟩
mutual
theorem lv_pd {N L : Nat} (hN : N < 10 ^ 32) : ∀ {d : D}, lvB N L d = true → ∃ p, Pd d p
  | .non, _ => ⟨.none, rfl, rfl, rfl, Nat.le_refl _, Nat.le_refl _, by simp only [PyData.shown]; exact asc_lit (by decide)⟩
  | .bl b, _ => ⟨.bool b, rfl, rfl, rfl, Nat.le_refl _, Nat.le_refl _, by simp only [PyData.shown]; cases b <;> exact asc_lit (by decide)⟩
  | .int i, h => by
    have h' : i.natAbs ≤ N := of_decide_eq_true h
    obtain ⟨a, b⟩ := int_shown hN h'
    exact ⟨.int i, rfl, a, b, by simp only [wt]; exact int_w hN h', by simp only [PyData.depth, dep, Nat.le_refl], by simp only [PyData.shown]; exact asc_int i⟩
  | .str x, h => by
    have h' : Asc x := ascB_iff.mp (by simpa only [lvB] using h)
    exact ⟨.str x, rfl, str_short h', rfl, Nat.le_refl _, Nat.le_refl _, by simp only [PyData.shown]; exact asc_reprText h'⟩
  | .tup ds, h => by
    obtain ⟨ps, q⟩ := lvs_pd hN (ds := ds) (by simp only [lvB, Bool.and_eq_true] at h; exact h.2)
    exact ⟨.tuple ps, by simp only [pyr, q.e, Option.map_some], by simp only [PyData.leavesShort]; exact q.l, by simp only [PyData.showable]; exact q.s, by simp only [PyData.weight, wt]; exact q.w, by simp only [PyData.depth, dep]; exact Nat.succ_le_succ q.d, by simp only [PyData.shown]; exact asc_tuple q.a⟩
  | .lst ds, h => by
    obtain ⟨ps, q⟩ := lvs_pd hN (ds := ds) (by simp only [lvB, Bool.and_eq_true] at h; exact h.2)
    exact ⟨.list ps, by simp only [pyr, q.e, Option.map_some], by simp only [PyData.leavesShort]; exact q.l, by simp only [PyData.showable]; exact q.s, by simp only [PyData.weight, wt]; exact q.w, by simp only [PyData.depth, dep]; exact Nat.succ_le_succ q.d, by simp only [PyData.shown]; exact asc_list q.a⟩
  | .dic ks ds, h => by
    simp only [lvB, Bool.and_eq_true, decide_eq_true_eq, List.all_eq_true] at h
    obtain ⟨⟨h1, h2⟩, h3⟩ := h
    obtain ⟨ps, q⟩ := lvs_pd hN (ds := ds) h3
    have hl := pyrs_len q.e
    have go : ∀ (ks : List Key) (ps : List PyData) (ds : List D), (∀ k ∈ ks, keyOkB N k = true) → ks.length = ps.length → PyData.leavesShortAll 33 ps = true → PyData.showableAll ps = true → (∀ t ∈ PyData.shownAll ps, Asc t) →
        PyData.leavesShortKv 33 ((ks.map keyP).zip ps) = true ∧ PyData.showableKv ((ks.map keyP).zip ps) = true ∧ PyData.weightKv ((ks.map keyP).zip ps) ≤ (ks.map fun k => keyW k + 1).sum + PyData.weightAll ps ∧ PyData.depthKv ((ks.map keyP).zip ps) = PyData.depthAll ps ∧ ∀ t ∈ PyData.shownKv ((ks.map keyP).zip ps), Asc t := by
      intro ks
      induction ks with
      | nil => intro ps ds _ hl _ _ _; cases ps with
        | nil => exact ⟨rfl, rfl, Nat.le_refl _, rfl, fun _ h => by simp [PyData.shownKv] at h⟩
        | cons _ _ => simp at hl
      | cons k ks ih => intro ps ds hk hl hs1 hs2 hs3; cases ps with
        | nil => simp at hl
        | cons p ps =>
          simp only [PyData.leavesShortAll, PyData.showableAll, Bool.and_eq_true] at hs1 hs2
          simp only [PyData.shownAll, List.mem_cons] at hs3
          obtain ⟨a1, a2, a3, a4, a5⟩ := ih ps ds (fun k hk' => hk k (List.mem_cons_of_mem _ hk')) (by simpa using hl) hs1.2 hs2.2 (fun t ht => hs3 t (.inr ht))
          obtain ⟨b1, b2, b3, b4, b5⟩ := key_pd hN (hk k (by simp))
          simp only [List.map_cons, List.zip_cons_cons, PyData.leavesShortKv, PyData.showableKv, PyData.weightKv, PyData.depthKv, PyData.shownKv, PyData.weightAll, PyData.depthAll, List.sum_cons, a1, a2, a4, b1, b2, b4, hs1.1, hs2.1]
          refine ⟨rfl, rfl, by omega, by omega, fun t ht => ?_⟩
          rcases List.mem_cons.mp ht with rfl | ht
          · exact (b5.app (asc_lit (by decide))).app (hs3 _ (.inl rfl))
          · exact a5 t ht
    obtain ⟨a1, a2, a3, a4, a5⟩ := go ks ps ds h1 (by omega) q.l q.s q.a
    exact ⟨.dict ((ks.map keyP).zip ps), by simp only [pyr, q.e, Option.map_some], by simp only [PyData.leavesShort]; exact a1, by simp only [PyData.showable]; exact a2, by simp only [PyData.weight, wt]; exact Nat.le_trans a3 (Nat.add_le_add_left q.w _), by simp only [PyData.depth, dep, a4]; exact Nat.succ_le_succ q.d, by simp only [PyData.shown]; exact asc_dict a5⟩
  | .ref _, h => by cases h
  | .fn _, h => by cases h
theorem lvs_pd {N L : Nat} (hN : N < 10 ^ 32) : ∀ {ds : List D}, lvsB N L ds = true → ∃ ps, Pds ds ps
  | [], _ => ⟨[], rfl, rfl, rfl, Nat.le_refl _, Nat.le_refl _, fun _ h => by simp [PyData.shownAll] at h⟩
  | d :: ds, h => by
    simp only [lvsB, Bool.and_eq_true] at h
    obtain ⟨p, q⟩ := lv_pd hN h.1
    obtain ⟨ps, qs⟩ := lvs_pd hN h.2
    refine ⟨p :: ps, by simp only [pyrs, q.e, qs.e], by simp only [PyData.leavesShortAll, q.l, qs.l, Bool.and_self], by simp only [PyData.showableAll, q.s, qs.s, Bool.and_self], ?_, ?_, fun t ht => ?_⟩
    · simp only [PyData.weightAll, wts]; have := q.w; have := qs.w; omega
    · simp only [PyData.depthAll, deps]; have := q.d; have := qs.d; omega
    · simp only [PyData.shownAll, List.mem_cons] at ht
      rcases ht with rfl | ht
      · exact q.a
      · exact qs.a t ht
end
/-- data with numbers of at most N, of weight at most W, of depth at most k -/
structure Dt (N L W k : Nat) (d : D) : Prop where
  l : lvB N L d = true
  w : wt d ≤ W
  d : dep d ≤ k
theorem Dt.mono {N L W k N' L' W' k' : Nat} {d : D} (h : Dt N L W k d) (h1 : N ≤ N') (hL : L ≤ L') (h2 : W ≤ W') (h3 : k ≤ k') : Dt N' L' W' k' d := by
  refine ⟨?_, Nat.le_trans h.w h2, Nat.le_trans h.d h3⟩
  have hk : ∀ k : Key, keyOkB N k = true → keyOkB N' k = true := fun k hk => by
    cases k with
    | inl i => exact decide_eq_true (Nat.le_trans (of_decide_eq_true hk) h1)
    | inr x => exact hk
  have go : (∀ d, lvB N L d = true → lvB N' L' d = true) ∧ (∀ ds, lvsB N L ds = true → lvsB N' L' ds = true) := by
    constructor
    · intro d
      exact D.rec (motive_1 := fun d => lvB N L d = true → lvB N' L' d = true) (motive_2 := fun ds => lvsB N L ds = true → lvsB N' L' ds = true)
        (fun _ => rfl) (fun _ _ => rfl) (fun i h => decide_eq_true (Nat.le_trans (of_decide_eq_true h) h1)) (fun x h => by simpa only [lvB] using h)
        (fun ds ih h => by simp only [lvB, Bool.and_eq_true, decide_eq_true_eq] at h ⊢; exact ⟨Nat.le_trans h.1 hL, ih h.2⟩) (fun ds ih h => by simp only [lvB, Bool.and_eq_true, decide_eq_true_eq] at h ⊢; exact ⟨Nat.le_trans h.1 hL, ih h.2⟩)
        (fun ks ds ih h => by
          simp only [lvB, Bool.and_eq_true, List.all_eq_true] at h ⊢
          exact ⟨⟨fun k hk' => hk k (h.1.1 k hk'), h.1.2⟩, ih h.2⟩)
        (fun _ h => by cases h) (fun _ h => by cases h) (fun _ _ _ _ h => by simp [lvB] at h) (fun _ => rfl) (fun d ds i1 i2 h => by
          simp only [lvsB, Bool.and_eq_true] at h ⊢
          exact ⟨i1 h.1, i2 h.2⟩) d
    · intro ds
      exact D.rec_1 (motive_1 := fun d => lvB N L d = true → lvB N' L' d = true) (motive_2 := fun ds => lvsB N L ds = true → lvsB N' L' ds = true)
        (fun _ => rfl) (fun _ _ => rfl) (fun i h => decide_eq_true (Nat.le_trans (of_decide_eq_true h) h1)) (fun x h => by simpa only [lvB] using h)
        (fun ds ih h => by simp only [lvB, Bool.and_eq_true, decide_eq_true_eq] at h ⊢; exact ⟨Nat.le_trans h.1 hL, ih h.2⟩) (fun ds ih h => by simp only [lvB, Bool.and_eq_true, decide_eq_true_eq] at h ⊢; exact ⟨Nat.le_trans h.1 hL, ih h.2⟩)
        (fun ks ds ih h => by
          simp only [lvB, Bool.and_eq_true, List.all_eq_true] at h ⊢
          exact ⟨⟨fun k hk' => hk k (h.1.1 k hk'), h.1.2⟩, ih h.2⟩)
        (fun _ h => by cases h) (fun _ h => by cases h) (fun _ _ _ _ h => by simp [lvB] at h) (fun _ => rfl) (fun d ds i1 i2 h => by
          simp only [lvsB, Bool.and_eq_true] at h ⊢
          exact ⟨i1 h.1, i2 h.2⟩) ds
  exact go.1 d h.l
theorem Dt.dat {N L W k : Nat} {d : D} (h : Dt N L W k d) : datB d = true := lv_dat h.l
/-- its text -/
theorem Dt.shown {N L W k : Nat} {d : D} (h : Dt N L W k d) (hN : N < 10 ^ 32) (hW : W ≤ 400000) (hk : k ≤ 60) : ∃ t, shownD d = some t ∧ t.length ≤ 35 * W + 33 ∧ Asc t := by
  obtain ⟨p, q⟩ := lv_pd hN h.l
  have h1 := PyData.shown_le 33 (by decide) p q.l
  have h2 : 35 * p.weight ≤ 35 * W := Nat.mul_le_mul_left _ (Nat.le_trans q.w h.w)
  have h3 : p.shown.length ≤ sizeLine := by rw [sizeLine_eq]; omega
  have h4 := Nat.le_trans q.d h.d
  refine ⟨p.shown, ?_, by omega, q.a⟩
  unfold shownD
  simp only [q.e, q.s, decide_eq_true h3, decide_eq_true (Nat.le_trans h4 hk), Bool.and_self, if_true]
theorem wt_mem : ∀ {ds : List D} {d : D}, d ∈ ds → wt d ≤ wts ds
  | x :: ds, d, h => by
    rw [wts]
    rcases List.mem_cons.mp h with rfl | h
    · omega
    · have := wt_mem h; omega
theorem dt_tup {N L W k : Nat} {ds : List D} : Dt N L W (k + 1) (.tup ds) ↔ ds.length ≤ L ∧ (∀ d ∈ ds, Dt N L W k d) ∧ wts ds ≤ W := by
  constructor
  · rintro ⟨h1, h2, h3⟩
    simp only [lvB, Bool.and_eq_true, decide_eq_true_eq, lvsB_all, List.all_eq_true] at h1
    simp only [wt] at h2
    simp only [dep, Nat.succ_le_succ_iff] at h3
    have h3 := deps_le.mp h3
    exact ⟨h1.1, fun d hd => ⟨h1.2 d hd, Nat.le_trans (wt_mem hd) h2, h3 d hd⟩, h2⟩
  · rintro ⟨h1, h2, h3⟩
    refine ⟨?_, by simpa only [wt] using h3, by simp only [dep]; exact Nat.succ_le_succ (deps_le.mpr fun d hd => (h2 d hd).d)⟩
    simp only [lvB, Bool.and_eq_true, decide_eq_true_eq, lvsB_all, List.all_eq_true]
    exact ⟨h1, fun d hd => (h2 d hd).l⟩
theorem dt_lst {N L W k : Nat} {ds : List D} : Dt N L W (k + 1) (.lst ds) ↔ ds.length ≤ L ∧ (∀ d ∈ ds, Dt N L W k d) ∧ wts ds ≤ W := by
  have : Dt N L W (k + 1) (.lst ds) ↔ Dt N L W (k + 1) (.tup ds) := by
    constructor <;> (rintro ⟨h1, h2, h3⟩; exact ⟨by simpa only [lvB] using h1, by simpa only [wt] using h2, by simpa only [dep] using h3⟩)
  rw [this, dt_tup]
theorem dt_str {N L W k : Nat} {x : Str} : Dt N L W k (.str x) ↔ Asc x ∧ x.length ≤ W := ⟨fun ⟨h1, h2, _⟩ => ⟨ascB_iff.mp h1, h2⟩, fun ⟨h1, h2⟩ => ⟨ascB_iff.mpr h1, h2, Nat.zero_le _⟩⟩
theorem dt_int {N L W k : Nat} {i : Int} : Dt N L W k (.int i) ↔ i.natAbs ≤ N ∧ 110 ≤ W := ⟨fun ⟨h1, h2, _⟩ => ⟨of_decide_eq_true h1, h2⟩, fun ⟨h1, h2⟩ => ⟨decide_eq_true h1, h2, Nat.zero_le _⟩⟩
theorem dt_non {N L W k : Nat} : Dt N L W k .non := ⟨rfl, Nat.zero_le _, Nat.zero_le _⟩
theorem dt_bl {N L W k : Nat} {b : Bool} : Dt N L W k (.bl b) := ⟨rfl, Nat.zero_le _, Nat.zero_le _⟩
theorem wts_app : ∀ (a b : List D), wts (a ++ b) = wts a + wts b
  | [], b => by simp [wts]
  | x :: a, b => by rw [List.cons_append, wts, wts, wts_app a b]; omega
end G

set_option Elab.async false
set_option linter.all false
set_option maxRecDepth 1000000
set_option maxHeartbeats 4000000
/-! GH: dicts keyed by rows, as the library tells them. -/
namespace G
variable [Wld]
open PySem PySem.Spec PyProof.Rows L2
theorem nks_cons {d : D} {ds : List D} {qs : List NestedKey} (h : nks (d :: ds) = some qs) : ∃ p ps, nk d = some p ∧ nks ds = some ps ∧ qs = p :: ps := by
  unfold nks at h
  split at h
  · cases h; exact ⟨_, _, by assumption, by assumption, rfl⟩
  · cases h
section
variable {H : Hp} {ι : List Addr} {X : Cx} {pins : List (Addr × PySem.Obj)} {σ : SV} {s : Shared}
mutual
theorem RD.nest (I : Inv X pins σ H s) : ∀ (d : D) (v : V) (u : Value) (k : NestedKey), RD X.K H ι v d → RelV v u → nk d = some k → NestedIs s.heap k u
  | .non, _, _, _, h, r, e => by cases h; cases r; cases e; exact .none
  | .bl b, _, _, _, h, r, e => by cases e
  | .int i, _, _, _, h, r, e => by cases h; obtain ⟨t, rfl⟩ := r; cases e; exact .int i t
  | .str x, _, _, _, h, r, e => by cases h; obtain ⟨t, rfl⟩ := r; cases e; exact .text x t
  | .tup ds, _, _, _, h, r, e => by
    obtain ⟨ps, e1, e2⟩ := Option.map_eq_some_iff.mp (show (nks ds).map NestedKey.tup = some _ from e)
    subst e2
    cases h with | tup h1 h2 =>
    cases r
    obtain ⟨its, rv, ⟨o, g, c, n, dd⟩, _⟩ := I.tuple h1
    exact .tup g c dd (by simpa using RDs.nest I ds _ _ _ h2 rv e1)
  | .lst ds, _, _, _, h, r, e => by cases e
  | .dic _ _, _, _, _, _, _, e => by cases e
  | .ref _, _, _, _, _, _, e => by cases e
  | .fn _, _, _, _, _, _, e => by cases e
theorem RDs.nest (I : Inv X pins σ H s) : ∀ (ds : List D) (vs : List V) (us : List Value) (ks : List NestedKey), RDs X.K H ι vs ds → Vals vs us → nks ds = some ks → NestedAll s.heap ks us
  | [], _, _, _, h, r, e => by cases h; cases r; cases e; exact .nil
  | d :: ds, _, _, _, h, r, e => by
    obtain ⟨p, ps, e1, e2, rfl⟩ := nks_cons e
    cases h with | cons h1 h2 =>
    cases r with | cons r1 r2 =>
    exact .cons (RD.nest I d _ _ p h1 r1 e1) (RDs.nest I ds _ _ ps h2 r2 e2)
end
theorem paired_memL {α β : Type} {R : α → β → Prop} : ∀ {l : List α} {m : List β} {a : α}, Paired R l m → a ∈ l → ∃ b ∈ m, R a b
  | _, _, _, .nil, h => by cases h
  | x :: l, y :: m, a, .cons r t, h => by
    rcases List.mem_cons.mp h with rfl | h
    · exact ⟨y, by simp, r⟩
    · obtain ⟨b, h1, h2⟩ := paired_memL t h
      exact ⟨b, by simp [h1], h2⟩
/-- where a row stands -/
def adV : Value → Addr
  | .ref a => a
  | _ => 0
theorem nk_leaf {d : D} {k : NestedKey} (h : nk d = some k) (hk : ktup k = false) : d = .non ∧ k = .none ∨ (∃ i, d = .int i ∧ k = .num i) ∨ ∃ x, d = .str x ∧ k = .text x := by
  cases d with
  | non => cases h; exact .inl ⟨rfl, rfl⟩
  | int i => cases h; exact .inr (.inl ⟨i, rfl, rfl⟩)
  | str x => cases h; exact .inr (.inr ⟨x, rfl, rfl⟩)
  | tup ds => obtain ⟨ps, e1, rfl⟩ := Option.map_eq_some_iff.mp (show (nks ds).map NestedKey.tup = some _ from h); cases hk
  | _ => cases h
theorem nk_row {d : D} {k : NestedKey} (h : nk d = some k) (hk : ktup k = true) : ∃ ds, d = .tup ds := by
  cases d with
  | tup ds => exact ⟨ds, rfl⟩
  | non => cases h; cases hk
  | int i => cases h; cases hk
  | str x => cases h; cases hk
  | _ => cases h
theorem lf_key {k : NestedKey} (hk : ktup k = false) : (lfOf k).key = k := by
  cases k <;> first | rfl | cases hk
theorem lf_inj {a b : NestedKey} (ha : ktup a = false) (hb : ktup b = false) (h : lfOf a = lfOf b) : a = b := by
  rw [← lf_key ha, ← lf_key hb, h]
theorem lf_is {K : PySem.W.Frag} {d : D} {k : NestedKey} {v : V} {u : Value} (h : nk d = some k) (hk : ktup k = false) (r : RD K H ι v d) (rv : RelV v u) : Leaf.isOf (lfOf k) u = true := by
  rcases nk_leaf h hk with ⟨rfl, rfl⟩ | ⟨i, rfl, rfl⟩ | ⟨x, rfl, rfl⟩
  · cases r; cases rv; rfl
  · cases r; obtain ⟨t, rfl⟩ := rv; show decide (i = i) = true; exact decide_eq_true rfl
  · cases r; obtain ⟨t, rfl⟩ := rv; show Value.isStrOf x (.str x t) = true; simp [Value.isStrOf]
def pj (x : NestedKey × Value × V × Value) : NestedKey × Addr × Value := (x.1, adV x.2.1, x.2.2.2)
def pjL (x : NestedKey × Value × V × Value) : Leaf × Value := (lfOf x.1, x.2.2.2)
section
variable {a : Addr} {kvs : List (D × D)} {o : PySem.Obj} {es : Array DictEntry} {ep : Nat} {xs : List (NestedKey × Value × V × Value)}
theorem KdAt.row (h : KdAt X.K H ι a kvs o es ep xs) {x : NestedKey × Value × V × Value} (hx : x ∈ xs) (ht : ktup x.1 = true) : x.2.1 = .ref (adV x.2.1) ∧ ∃ q y, nk q = some x.1 ∧ RelV y x.2.1 ∧ RD X.K H ι y q := by
  obtain ⟨q, _, h1, h2, _⟩ := paired_memL h.pr hx
  rcases h2 with ⟨_, y, r, d⟩ | ⟨z, _⟩
  · obtain ⟨ds, e⟩ := nk_row h1 ht
    refine ⟨?_, q.1, y, h1, r, d⟩
    rw [e] at d
    cases d with | tup g1 g2 =>
    rw [show x.2.1 = _ from r]; rfl
  · rw [ht] at z; cases z
theorem KdAt.dictT (I : Inv X pins σ H s) (hw : X.w = Wld.w) (h : KdAt X.K H ι a kvs o es ep xs) (ht : ∀ x ∈ xs, ktup x.1 = true) : s.heap.DictOfH (nestedKind X.prog X.w) a (xs.map pj) := by
  refine ⟨o, es, ep, (I.hok a _ h.at_).1, h.ex, h.dt, ?_, fun y hy => ?_, ?_⟩
  · rw [h.en, List.map_map]
    refine List.map_congr_left fun x hx => ?_
    show _ = entryOfKey _ _
    unfold entryOfKey pj
    rw [← hw, ← (h.row hx (ht x hx)).1]
    rfl
  · obtain ⟨x, hx, rfl⟩ := List.mem_map.mp hy
    obtain ⟨e, q, y, h1, r, d⟩ := h.row hx (ht x hx)
    refine ⟨?_, h.dp x hx⟩
    show NestedIs s.heap x.1 (.ref (adV x.2.1))
    rw [← e]
    exact RD.nest I _ _ _ _ d r h1
  · rw [List.map_map]
    exact h.nd
theorem pairs_l {w : World} {P : Program} : ∀ {xs : List (NestedKey × Value × V × Value)}, (∀ x ∈ xs, Leaf.isOf (lfOf x.1) x.2.1 = true) → Pairs (leafKind P w) (xs.map fun x => (⟨x.1.hash Wld.w, x.2.1, x.2.2.2⟩ : DictEntry)) (xs.map pjL)
  | [], _ => .nil
  | x :: xs, h => .cons (h x (by simp)) rfl (pairs_l fun y hy => h y (by simp [hy]))
theorem nodup_lf : ∀ {xs : List (NestedKey × Value × V × Value)}, (∀ x ∈ xs, ktup x.1 = false) → (xs.map (·.1)).Nodup → ((xs.map pjL).map (·.1)).Nodup
  | [], _, _ => List.nodup_nil
  | x :: xs, h, n => by
    rw [List.map_cons, List.nodup_cons] at n
    rw [List.map_cons, List.map_cons, List.nodup_cons]
    refine ⟨fun z => ?_, nodup_lf (fun y hy => h y (by simp [hy])) n.2⟩
    obtain ⟨p, hp, e⟩ := List.mem_map.mp z
    obtain ⟨y, hy, rfl⟩ := List.mem_map.mp hp
    refine n.1 (List.mem_map.mpr ⟨y, hy, ?_⟩)
    exact lf_inj (h y (by simp [hy])) (h x (by simp)) e
theorem KdAt.leaf (h : KdAt X.K H ι a kvs o es ep xs) (ht : ∀ x ∈ xs, ktup x.1 = false) : ∀ x ∈ xs, Leaf.isOf (lfOf x.1) x.2.1 = true := fun x hx => by
  obtain ⟨q, _, h1, h2, _⟩ := paired_memL h.pr hx
  rcases h2 with ⟨z, _⟩ | ⟨_, z⟩
  · rw [ht x hx] at z; cases z
  · exact z
theorem KdAt.dictL (I : Inv X pins σ H s) (hw : X.w = Wld.w) (h : KdAt X.K H ι a kvs o es ep xs) (ht : ∀ x ∈ xs, ktup x.1 = false) : s.heap.DictOf (leafKind X.prog X.w) a (xs.map pjL) := by
  refine ⟨o, es, ep, (I.hok a _ h.at_).1, h.ex, h.dt, fun e he => ?_, ?_, nodup_lf ht h.nd⟩
  · have he' : e ∈ es.toList := Array.mem_toList_iff.mpr he
    rw [h.en] at he'
    obtain ⟨x, hx, rfl⟩ := List.mem_map.mp he'
    refine ⟨lfOf x.1, h.leaf ht x hx, ?_⟩
    show x.1.hash Wld.w = (lfOf x.1).key.hash X.w
    rw [lf_key (ht x hx), hw]
  · rw [h.en]; exact pairs_l (h.leaf ht)
end
end
end G

set_option Elab.async false
set_option linter.all false
set_option maxRecDepth 1000000
set_option maxHeartbeats 4000000
/-! GHA: dicts keyed by rows: an entry set, looked for, displays by comprehensions. -/
namespace G
variable [Wld]
open PySem PySem.Spec PyProof.Rows L2
def valKd (kvs : List (D × D)) (k : NestedKey) : Option D := (kvs.find? fun q => decide (nk q.1 = some k)).map (·.2)
def setKd (k : NestedKey) (d : D) (q : D × D) : D × D := if nk q.1 = some k then (q.1, d) else q
def putKd (kvs : List (D × D)) (kd : D) (k : NestedKey) (d : D) : List (D × D) := if (valKd kvs k).isSome then kvs.map (setKd k d) else kvs ++ [(kd, d)]
theorem putKd_len (kvs : List (D × D)) (kd : D) (k : NestedKey) (d : D) : (putKd kvs kd k d).length ≤ kvs.length + 1 := by
  unfold putKd
  split <;> simp
abbrev X4 := NestedKey × Value × V × Value
def set4 (k : NestedKey) (v : V) (r : Value) (x : X4) : X4 := if x.1 = k then (x.1, x.2.1, v, r) else x
def has4 (xs : List X4) (k : NestedKey) : Option X4 := xs.find? fun x => decide (x.1 = k)
def store4 (xs : List X4) (k : NestedKey) (b : Value) (v : V) (r : Value) : List X4 := if (has4 xs k).isSome then xs.map (set4 k v r) else xs ++ [(k, b, v, r)]
theorem at_pjL {k : NestedKey} (hk : ktup k = false) : ∀ {xs : List X4}, (∀ x ∈ xs, ktup x.1 = false) → valueAt (xs.map pjL) (lfOf k) = (has4 xs k).map fun x => x.2.2.2
  | [], _ => rfl
  | x :: xs, h => by
    have ih := at_pjL hk (xs := xs) fun y hy => h y (by simp [hy])
    unfold valueAt has4 at ih ⊢
    rw [List.map_cons, List.find?_cons, List.find?_cons]
    by_cases e : x.1 = k
    · have e2 : (pjL x).1 = lfOf k := by rw [← e]; rfl
      rw [decide_eq_true e2, decide_eq_true e]; rfl
    · have e2 : ¬ (pjL x).1 = lfOf k := fun z => e (lf_inj (h x (by simp)) hk z)
      rw [decide_eq_false e2, decide_eq_false e]; exact ih
theorem paired_find {α β : Type} {R : α → β → Prop} {P : α → Bool} {Q : β → Bool} : ∀ {l : List α} {m : List β}, Paired R l m → (∀ a b, R a b → P a = Q b) → (l.find? P = none ∧ m.find? Q = none) ∨ ∃ a b, l.find? P = some a ∧ m.find? Q = some b ∧ R a b
  | _, _, .nil, _ => .inl ⟨rfl, rfl⟩
  | a :: l, b :: m, .cons r t, e => by
    have h := e a b r
    cases hq : Q b with
    | true => exact .inr ⟨a, b, by rw [List.find?_cons_of_pos (h.trans hq)], by rw [List.find?_cons_of_pos hq], r⟩
    | false =>
      rcases paired_find t e with ⟨z1, z2⟩ | ⟨a', b', z1, z2, z3⟩
      · exact .inl ⟨by rw [List.find?_cons_of_neg (by rw [h, hq]; decide)]; exact z1, by rw [List.find?_cons_of_neg (by rw [hq]; decide)]; exact z2⟩
      · exact .inr ⟨a', b', by rw [List.find?_cons_of_neg (by rw [h, hq]; decide)]; exact z1, by rw [List.find?_cons_of_neg (by rw [hq]; decide)]; exact z2, z3⟩
theorem paired_map {α β γ δ : Type} {R : α → β → Prop} {S : γ → δ → Prop} {f : α → γ} {g : β → δ} : ∀ {l : List α} {m : List β}, Paired R l m → (∀ a b, R a b → S (f a) (g b)) → Paired S (l.map f) (m.map g)
  | _, _, .nil, _ => .nil
  | _, _, .cons r t, e => .cons (e _ _ r) (paired_map t e)
theorem paired_snoc {α β : Type} {R : α → β → Prop} {a : α} {b : β} : ∀ {l : List α} {m : List β}, Paired R l m → R a b → Paired R (l ++ [a]) (m ++ [b])
  | _, _, .nil, r => .cons r .nil
  | _, _, .cons r t, q => .cons r (paired_snoc t q)
def Pr4 (K : PySem.W.Frag) (H : Hp) (ι : List Addr) (x : X4) (q : D × D) : Prop := nk q.1 = some x.1 ∧ KyR K H ι x.1 x.2.1 q.1 ∧ RelV x.2.2.1 x.2.2.2 ∧ RD K H ι x.2.2.1 q.2
theorem Pr4.find {K : PySem.W.Frag} {H : Hp} {ι : List Addr} {xs : List X4} {kvs : List (D × D)} (h : Paired (Pr4 K H ι) xs kvs) (k : NestedKey) : (has4 xs k = none ∧ valKd kvs k = none) ∨ ∃ x d, has4 xs k = some x ∧ valKd kvs k = some d ∧ x.1 = k ∧ RelV x.2.2.1 x.2.2.2 ∧ RD K H ι x.2.2.1 d := by
  have e : ∀ (a : X4) (b : D × D), Pr4 K H ι a b → (decide (a.1 = k)) = decide (nk b.1 = some k) := fun a b r => by
    rw [r.1]; simp
  rcases paired_find h e with ⟨z1, z2⟩ | ⟨a, b, z1, z2, z3⟩
  · exact .inl ⟨z1, by unfold valKd; rw [z2]; rfl⟩
  · refine .inr ⟨a, b.2, z1, by unfold valKd; rw [z2]; rfl, ?_, z3.2.2.1, z3.2.2.2⟩
    have := List.find?_some z1
    simpa using this
theorem Pr4.put {K : PySem.W.Frag} {H : Hp} {ι : List Addr} {xs : List X4} {kvs : List (D × D)} (h : Paired (Pr4 K H ι) xs kvs) {k : NestedKey} {kd d : D} {b : Value} {v : V} {r : Value} (hk : nk kd = some k) (rk : KyR K H ι k b kd) (rr : RelV v r) (rv : RD K H ι v d) :
    Paired (Pr4 K H ι) (store4 xs k b v r) (putKd kvs kd k d) := by
  have e : (has4 xs k).isSome = (valKd kvs k).isSome := by
    rcases Pr4.find h k with ⟨z1, z2⟩ | ⟨x, d', z1, z2, _⟩ <;> rw [z1, z2] <;> rfl
  unfold store4 putKd
  rw [e]
  split
  · refine paired_map h fun a q z => ?_
    unfold set4 setKd
    by_cases hk' : a.1 = k
    · rw [if_pos hk', if_pos (by rw [z.1, hk'])]
      exact ⟨z.1, z.2.1, rr, rv⟩
    · rw [if_neg hk', if_neg (by rw [z.1]; intro h; exact hk' (Option.some.inj h))]
      exact z
  · exact paired_snoc h ⟨hk, rk, rr, rv⟩
theorem store4_len {xs : List X4} {k b v r} : (store4 xs k b v r).length ≤ xs.length + 1 := by
  unfold store4
  split <;> simp
theorem store4_mem {P : NestedKey → Prop} {xs : List X4} {k b v r} (h : ∀ x ∈ xs, P x.1) (hk : P k) : ∀ x ∈ store4 xs k b v r, P x.1 := by
  intro x hx
  unfold store4 at hx
  split at hx
  · obtain ⟨y, hy, rfl⟩ := List.mem_map.mp hx
    unfold set4
    split <;> exact h y hy
  · rcases List.mem_append.mp hx with hx | hx
    · exact h x hx
    · cases List.mem_singleton.mp hx; exact hk
theorem paired_pick {α β γ : Type} {R : α → β → Prop} {T : β → γ → Prop} {U : α → γ → Prop} (go : ∀ a b c, R a b → T b c → U a c) : ∀ {l : List α} {m : List β} {n : List γ}, Paired R l m → Paired T m n → Paired U l n
  | _, _, _, .nil, .nil => .nil
  | _, _, _, .cons r rs, .cons t ts => .cons (go _ _ _ r t) (paired_pick go rs ts)
theorem paired_refl {α : Type} {R : α → α → Prop} (h : ∀ a, R a a) : ∀ {l : List α}, Paired R l l
  | [] => .nil
  | _ :: _ => .cons (h _) (paired_refl h)
theorem nodup_of_map {α β : Type} {f : α → β} : ∀ {l : List α}, (l.map f).Nodup → l.Nodup
  | [], _ => List.nodup_nil
  | a :: l, h => by
    rw [List.map_cons, List.nodup_cons] at h
    exact List.nodup_cons.mpr ⟨fun z => h.1 (List.mem_map_of_mem z), nodup_of_map h.2⟩
/-- what the library tells of a dict keyed by worths, as entries -/
theorem leaf_back {P : Program} {w : World} : ∀ {es : List DictEntry} {ys : List X4}, Pairs (leafKind P w) es (ys.map pjL) → (∀ e ∈ es, ∃ k, (leafKind P w).is k e.key = true ∧ e.hash = (leafKind P w).hash k) → (∀ y ∈ ys, ktup y.1 = false) →
    ∃ xs : List X4, es = xs.map (fun x => (⟨x.1.hash w, x.2.1, x.2.2.2⟩ : DictEntry)) ∧ Paired (fun x y => x.1 = y.1 ∧ x.2.2 = y.2.2 ∧ ktup y.1 = false ∧ Leaf.isOf (lfOf x.1) x.2.1 = true) xs ys
  | [], [], _, _, _ => ⟨[], rfl, .nil⟩
  | e :: es, [], p, _, _ => by cases p
  | [], y :: ys, p, _, _ => by cases p
  | e :: es, y :: ys, p, hk, hy => by
    cases p with | cons h1 h2 h3 =>
    obtain ⟨xs, e1, e2⟩ := leaf_back h3 (fun e he => hk e (List.mem_cons_of_mem _ he)) fun z hz => hy z (List.mem_cons_of_mem _ hz)
    refine ⟨(y.1, e.key, y.2.2) :: xs, ?_, .cons ⟨rfl, rfl, hy y (by simp), h1⟩ e2⟩
    rw [List.map_cons, ← e1]
    obtain ⟨k, g1, g2⟩ := hk e (by simp)
    have ek : k = lfOf y.1 := (leafKind P w).inj _ _ _ g1 h1
    have eh : e.hash = y.1.hash w := by
      rw [g2, ek]
      show (lfOf y.1).key.hash w = _
      rw [lf_key (hy y (by simp))]
    have ev : e.val = y.2.2.2 := h2
    obtain ⟨a, b, c⟩ := e
    cases eh; cases ev
    rfl
theorem fst_eq : ∀ {xs ys : List X4} {R : X4 → X4 → Prop}, (∀ x y, R x y → x.1 = y.1) → Paired R xs ys → xs.map (·.1) = ys.map (·.1)
  | _, _, _, _, .nil => rfl
  | _, _, _, h, .cons r t => by rw [List.map_cons, List.map_cons, h _ _ r, fst_eq h t]
/-- is it a row -/
def kT : D → Bool
  | .tup _ => true
  | _ => false
theorem kT_eq {d : D} {k : NestedKey} (h : nk d = some k) : kT d = ktup k := by
  cases hk : ktup k with
  | true => obtain ⟨ds, rfl⟩ := nk_row h hk; rfl
  | false => rcases nk_leaf h hk with ⟨rfl, _⟩ | ⟨i, rfl, _⟩ | ⟨x, rfl, _⟩ <;> rfl
/-- keys of one kind: rows, or worths -/
def sameT (kvs : List (D × D)) (y : D) : Bool := kvs.all fun q => kT q.1 == kT y
theorem sameT_x {K : PySem.W.Frag} {H : Hp} {ι : List Addr} : ∀ {xs : List X4} {kvs : List (D × D)} {y : D} {k : NestedKey}, Paired (Pr4 K H ι) xs kvs → sameT kvs y = true → nk y = some k → ∀ x ∈ xs, ktup x.1 = ktup k
  | _, _, y, k, p, h, hy, x, hx => by
    obtain ⟨q, hq, h1, _⟩ := paired_memL p hx
    have := List.all_eq_true.mp h q hq
    rw [← kT_eq h1, ← kT_eq hy]
    simpa using this
section
variable {H : Hp} {ι : List Addr} {X : Cx} {pins : List (Addr × PySem.Obj)} {σ : SV} {s : Shared}
theorem KdAt.pj {a : Addr} {kvs : List (D × D)} {o : PySem.Obj} {es : Array DictEntry} {ep : Nat} {xs : List X4} (h : KdAt X.K H ι a kvs o es ep xs) : Paired (Pr4 X.K H ι) xs kvs := h.pr
theorem KdAt.len {a : Addr} {kvs : List (D × D)} {o : PySem.Obj} {es : Array DictEntry} {ep : Nat} {xs : List X4} (h : KdAt X.K H ι a kvs o es ep xs) : xs.length = kvs.length := Paired.length h.pr
theorem dct_ns {a : Addr} {o : PySem.Obj} {es : Array DictEntry} {ep : Nat} (h : o.data = .dict es ep) : NS a (exa a o) := exa_ns (fun vs z => by rw [h] at z; cases z) (fun z => by rw [h] at z; cases z) (fun _ z => by rw [h] at z; cases z) (fun _ z => by rw [h] at z; cases z)
/-- an entry is set: behind it -/
theorem KdAt.back {a : Addr} {kvs : List (D × D)} {o : PySem.Obj} {es : Array DictEntry} {ep : Nat} {xs : List X4} (I : Inv X pins σ H s) (hw : X.w = Wld.w) (h : KdAt X.K H ι a kvs o es ep xs) {kd d : D} {k : NestedKey} (hk : nk kd = some k) (hkd : k.depth ≤ 8) (hm : sameT kvs kd = true) {b : Value} {y v : V} {r : Value}
    (rb : RelV y b) (rk : RD X.K H ι y kd) (rv : RD X.K H ι v d) (rr : RelV v r) (hsz : kvs.length < sizeLine) {h' : Heap} {t' : Nat} (sb : Heap.SameBut a s.heap h')
    (dd : (ktup k = true → h'.DictOfH (nestedKind X.prog X.w) a ((store4 xs k b v r).map G.pj)) ∧ (ktup k = false → h'.DictOf (leafKind X.prog X.w) a ((store4 xs k b v r).map G.pjL))) :
    ∃ o', Inv X pins σ (upd H a (exa a o')) { s with heap := h', toks := t' } ∧ RO X.K (upd H a (exa a o')) ι a (.kd (putKd kvs kd k d)) ∧ Stay H (upd H a (exa a o')) := by
  have hms := sameT_x h.pr hm hk
  have hst : ∀ x ∈ store4 xs k b v r, ktup x.1 = ktup k := store4_mem (P := fun j => ktup j = ktup k) hms rfl
  have hdp : ∀ x ∈ store4 xs k b v r, x.1.depth ≤ 8 := store4_mem (P := fun k => k.depth ≤ 8) h.dp hkd
  have hl := h.len
  have hsl := store4_len (xs := xs) (k := k) (b := b) (v := v) (r := r)
  have key : ∀ {K' : Hp}, Stay H K' → KyR X.K K' ι k b kd := fun st => by
    cases ht : ktup k with
    | true => exact .inl ⟨ht, y, rb, RD.mono st ⟨[], by simp⟩ _ _ rk⟩
    | false => exact .inr ⟨ht, lf_is hk ht rk rb⟩
  have pr4 : ∀ {K' : Hp}, Stay H K' → Paired (Pr4 X.K K' ι) (store4 xs k b v r) (putKd kvs kd k d) := fun st =>
    Pr4.put (Paired.mapP h.pr fun x p z => ⟨z.1, z.2.1.mono st ⟨[], by simp⟩, z.2.2.1, RD.mono st ⟨[], by simp⟩ _ _ z.2.2.2⟩) hk (key st) rr (RD.mono st ⟨[], by simp⟩ _ _ rv)
  have fin : ∀ (o' : PySem.Obj) (es' : Array DictEntry) (ep' : Nat) (xs' : List X4), h'.get? a = some o' → o'.ExactDict → o'.data = .dict es' ep' → es'.toList = xs'.map (fun x => (⟨x.1.hash Wld.w, x.2.1, x.2.2.2⟩ : DictEntry)) →
      Paired (fun x y => x.1 = y.1 ∧ x.2.2 = y.2.2 ∧ (x.2.1 = y.2.1 ∨ ktup y.1 = false ∧ Leaf.isOf (lfOf y.1) x.2.1 = true)) xs' (store4 xs k b v r) → ((store4 xs k b v r).map (·.1)).Nodup →
      ∃ o', Inv X pins σ (upd H a (exa a o')) { s with heap := h', toks := t' } ∧ RO X.K (upd H a (exa a o')) ι a (.kd (putKd kvs kd k d)) ∧ Stay H (upd H a (exa a o')) := fun o' es' ep' xs' g1 g2 g3 g4 g5 g6 => by
    have st : Stay H (upd H a (exa a o')) := Stay.mut h.at_ (fun _ z => nomatch z) (fun _ _ z => nomatch z) (dct_ns h.dt) (dct_ns g3).2.2.2
    have ef : xs'.map (·.1) = (store4 xs k b v r).map (·.1) := fst_eq (fun _ _ z => z.1) g5
    have hmem : ∀ {P : NestedKey → Prop}, (∀ x ∈ store4 xs k b v r, P x.1) → ∀ x ∈ xs', P x.1 := fun hP x hx => by
      obtain ⟨y, hy, e, _⟩ := paired_memL g5 hx
      rw [e]; exact hP y hy
    refine ⟨o', d_write I (by rw [h.at_]; trivial) sb ⟨o', g1⟩ ⟨g1, ⟨o', g1⟩, fun h1 h2 e1 st => st _ e1⟩, ⟨o', es', ep', xs', upd_same, g2, g3, g4, by rw [ef]; exact g6, ?_, h.sm, hmem (P := fun k => k.depth ≤ 8) hdp, ⟨ktup k, hmem (P := fun j => ktup j = ktup k) hst⟩, ?_⟩, st⟩
    · have := Paired.length g5
      omega
    · refine paired_pick (fun x y q z1 z2 => ?_) g5 (pr4 st)
      obtain ⟨x1, x2, x3⟩ := x
      obtain ⟨y1, y2, y3⟩ := y
      obtain ⟨e1, e2, e3⟩ := z1
      dsimp only at e1 e2 e3
      subst e1 e2
      refine ⟨z2.1, ?_, z2.2.2⟩
      rcases e3 with e3 | ⟨e3, e4⟩
      · rw [show x2 = y2 from e3]; exact z2.2.1
      · exact .inr ⟨e3, e4⟩
  cases ht : ktup k with
  | true =>
    obtain ⟨o', es', ep', g1, g2, g3, g4, g5, g6⟩ := dd.1 ht
    rw [List.map_map] at g6
    refine fin o' es' ep' (store4 xs k b v r) g1 g2 g3 ?_ (paired_refl fun x => ⟨rfl, rfl, .inl rfl⟩) g6
    rw [g4, List.map_map]
    refine List.map_congr_left fun x hx => ?_
    show entryOfKey _ _ = _
    unfold entryOfKey G.pj
    obtain ⟨q, _, h1, h2, _⟩ := paired_memL (pr4 (.refl H)) hx
    have e : x.2.1 = .ref (adV x.2.1) := by
      rcases h2 with ⟨_, y, r, z⟩ | ⟨z, _⟩
      · obtain ⟨ds, e⟩ := nk_row h1 ((hst x hx).trans ht)
        rw [e] at z
        cases z with | tup g1 g2 =>
        rw [show x.2.1 = _ from r]; rfl
      · rw [(hst x hx).trans ht] at z; cases z
    rw [← hw]
    show (⟨_, .ref (adV x.2.1), _⟩ : DictEntry) = _
    rw [← e]
    rfl
  | false =>
    obtain ⟨o', es', ep', g1, g2, g3, g4, g5, g6⟩ := dd.2 ht
    obtain ⟨xs', e1, e2⟩ := leaf_back g5 (fun e he => g4 e (Array.mem_toList_iff.mp he)) fun y hy => (hst y hy).trans ht
    refine fin o' es' ep' xs' g1 g2 g3 (by rw [e1, hw]) (Paired.mapP e2 fun x y z => ⟨z.1, z.2.1, .inr ⟨z.2.2.1, z.1 ▸ z.2.2.2⟩⟩) ?_
    rw [List.map_map] at g6
    refine nodup_of_map (f := lfOf) ?_
    rw [List.map_map]
    exact g6
theorem KdAt.dict {a : Addr} {kvs : List (D × D)} {o : PySem.Obj} {es : Array DictEntry} {ep : Nat} {xs : List X4} (I : Inv X pins σ H s) (hw : X.w = Wld.w) (h : KdAt X.K H ι a kvs o es ep xs) {kd : D} {k : NestedKey} (hk : nk kd = some k) (hm : sameT kvs kd = true) :
    (ktup k = true → s.heap.DictOfH (nestedKind X.prog X.w) a (xs.map G.pj)) ∧ (ktup k = false → s.heap.DictOf (leafKind X.prog X.w) a (xs.map G.pjL)) :=
  ⟨fun e => h.dictT I hw fun x hx => (sameT_x h.pr hm hk x hx).trans e, fun e => h.dictL I hw fun x hx => (sameT_x h.pr hm hk x hx).trans e⟩
/-- a row as a key: its address -/
theorem row_ad {kd : D} {k : NestedKey} {y : V} {b : Value} (hk : nk kd = some k) (ht : ktup k = true) (rk : RD X.K H ι y kd) (rb : RelV y b) : b = .ref (adV b) := by
  obtain ⟨ds, rfl⟩ := nk_row hk ht
  cases rk with | tup g1 g2 =>
  rw [show b = _ from rb]; rfl
end
/-- the object of a new dict -/
abbrev newD : PySem.Obj := { cls := .type "dict", data := .dict #[] }
end G

set_option Elab.async false
set_option linter.all false
set_option maxRecDepth 1000000
set_option maxHeartbeats 4000000
/-! GHB: dicts keyed by rows: comprehensions. -/
namespace G
variable [Wld]
open PySem PySem.Spec PyProof.Rows L2
/-- an entry can be set in the dict at D, and so Nx holds -/
def KSet (K : PySem.W.Frag) (D : Addr) (y z : V) (H5 : Hp) (Nx : Hp → Prop) : Prop :=
  ∀ (X : Cx) (pins : List (Addr × PySem.Obj)) (σ : SV) (s : Shared) (u r : Value) (E : Value → Shared → Prop) (Q : Unit → Shared → Prop),
    X.K = K → X.w = Wld.w → X.A.units + 8 < cLine → Inv X pins σ H5 s → RelV y u → RelV z r →
    (∀ H' s', Inv X pins σ H' s' → Nx H' → Q () s') → wpAny (model X.prog X.w) X.A (dictSet D u r) Q E s
/-- {k: v for .. in .. if ..}, the entries set as KSet tells -/
def tDcK (K : PySem.W.Frag) (wi : TI) (g : TG) (tt : TT) (tk tv : TE) (vs : List Nat) : TE := fun σ H Q =>
  wi σ H fun J H1 => ∀ D, H1 D = none → (D == sysModules) = false →
    ∃ W : Nat → Nat → Hp → Prop, (∃ m, W 0 m (upd H1 D (exa D newD))) ∧ ∀ i m H, W i m H →
      (J.stop i H ∧ Q (.ref D) H) ∨
      (J.go i H ∧ ∃ Nx : Hp → Prop, (∀ H', Nx H' → ∃ m', m' < m ∧ W (i + 1) m' H') ∧
        ∀ x H', J.yld i H x H' → g x (L2.wipe σ vs) H' fun σ2 H2 => L2.wipe σ2 vs = L2.wipe σ vs ∧
          tt σ2 H2 fun b H3 => if b = true then tk σ2 H3 fun y H4 => tv σ2 H4 fun z H5 => KSet K D y z H5 Nx else Nx H3)
section
variable {X : Cx}
end
end G

set_option Elab.async false
set_option linter.all false
set_option maxRecDepth 1000000
set_option maxHeartbeats 4000000
/-! GHC: dicts keyed by rows: the mirror of a comprehension; in, not in; get. -/
namespace G
variable [Wld]
open PySem PySem.Spec PyProof.Rows L2
/-- what may be a key of a dict keyed by rows or worths -/
def rk (d : D) : Option NestedKey := (nk d).bind fun k => if k.depth ≤ 8 then some k else none
abbrev Tr := D × NestedKey × D
def kdsOf : List D → Option (List Tr)
  | [] => some []
  | .tup [kd, vd] :: ds => (rk kd).bind fun k => (kdsOf ds).map ((kd, k, vd) :: ·)
  | _ => none
def mergeKd (kvs : List (D × D)) (ps : List Tr) : List (D × D) := ps.foldl (fun a p => putKd a p.1 p.2.1 p.2.2) kvs
theorem mergeKd_len : ∀ (ps : List Tr) (kvs : List (D × D)), (mergeKd kvs ps).length ≤ kvs.length + ps.length
  | [], kvs => by simp [mergeKd]
  | p :: ps, kvs => by
    have h := mergeKd_len ps (putKd kvs p.1 p.2.1 p.2.2)
    have h2 := putKd_len kvs p.1 p.2.1 p.2.2
    have e : mergeKd kvs (p :: ps) = mergeKd (putKd kvs p.1 p.2.1 p.2.2) ps := rfl
    rw [e, List.length_cons]
    omega
theorem kdsOf_cons {x : D} {xs : List D} {all : List Tr} (h : kdsOf (x :: xs) = some all) : ∃ kd vd k cs, x = .tup [kd, vd] ∧ rk kd = some k ∧ kdsOf xs = some cs ∧ all = (kd, k, vd) :: cs := by
  unfold kdsOf at h
  split at h
  · rename_i hh; cases hh
  · rename_i kd vd ds' hh
    cases hh
    obtain ⟨k, hk, h⟩ := Option.bind_eq_some_iff.mp h
    obtain ⟨cs, e1, e2⟩ := Option.map_eq_some_iff.mp h
    exact ⟨kd, vd, k, cs, rfl, hk, e1, e2.symm⟩
  · cases h
theorem kdsOf_mk {kd vd : D} {k : NestedKey} {xs : List D} {cs : List Tr} (hk : rk kd = some k) (h : kdsOf xs = some cs) : kdsOf (.tup [kd, vd] :: xs) = some ((kd, k, vd) :: cs) := by
  unfold kdsOf
  rw [hk, h]; rfl
theorem kdsOf_append : ∀ {xs ys : List D} {all : List Tr}, kdsOf (xs ++ ys) = some all → ∃ a b, kdsOf xs = some a ∧ kdsOf ys = some b ∧ all = a ++ b
  | [], ys, all, h => ⟨[], all, rfl, h, rfl⟩
  | x :: xs, ys, all, h => by
    obtain ⟨kd, vd, k, cs, rfl, hk, e1, rfl⟩ := kdsOf_cons (x := x) (xs := xs ++ ys) h
    obtain ⟨a, b, e3, e4, rfl⟩ := kdsOf_append e1
    exact ⟨_, b, kdsOf_mk hk e3, e4, rfl⟩
/-- all keys rows, or all worths -/
def kdOne (ps : List Tr) : Bool := ps.all (fun p => kT p.1) || ps.all (fun p => !kT p.1)
theorem putKd_keys {P : D → Prop} {kvs : List (D × D)} {kd d : D} {k : NestedKey} (h : ∀ q ∈ kvs, P q.1) (hk : P kd) : ∀ q ∈ putKd kvs kd k d, P q.1 := by
  intro q hq
  unfold putKd at hq
  split at hq
  · obtain ⟨p, hp, rfl⟩ := List.mem_map.mp hq
    unfold setKd
    split <;> exact h p hp
  · rcases List.mem_append.mp hq with hq | hq
    · exact h q hq
    · cases List.mem_singleton.mp hq; exact hk
theorem mergeKd_keys {P : D → Prop} : ∀ {ps : List Tr} {kvs : List (D × D)}, (∀ q ∈ kvs, P q.1) → (∀ p ∈ ps, P p.1) → ∀ q ∈ mergeKd kvs ps, P q.1
  | [], _, h, _ => h
  | p :: ps, kvs, h, hp => mergeKd_keys (ps := ps) (kvs := putKd kvs p.1 p.2.1 p.2.2) (putKd_keys h (hp p (by simp))) fun q hq => hp q (by simp [hq])
/-- {k: v for .. in .. if ..}, the keys rows or worths -/
noncomputable def mDcK (vs : List Nat) (t : Tgt) (mi : M Src) (c : M Bool) (mk mv : M R) : M R := bnd mi fun src => bnd (fun e S => compL vs t c (mKV mk mv) src.ws src.items (wipeE e vs) S) fun ys e S => (kdsOf ys).bind fun ps => if kdOne ps then some (.new (.kd (mergeKd [] ps)), e, S) else none
section
variable {X : Cx} {kx vx tg iter : Expr} {ifs : List Expr} {scope : Scope} {own : List (Str × Nat)} {pos : Pos} {mi : M Src} {t : Tgt} {mc : M Bool} {mk mv : M R}
end
/-! ### in, not in -/
def gInK (neg : Bool) (rx ry : R) : M R := fun e S => match rx with
  | .d y => (match look ry e S with
    | some (.kd kvs) => (rk y).bind fun k => if sameT kvs y then some (.d (.bl ((valKd kvs k).isSome != neg)), e, S) else none
    | _ => none)
  | _ => none
section
variable {X : Cx}
end
end G

set_option Elab.async false
set_option linter.all false
set_option maxRecDepth 1000000
set_option maxHeartbeats 2000000
/-! GHW: a law's row, the world told; the calculus of dicts keyed by rows. -/
namespace G
open PySem PySem.Spec PyProof.Rows L2
theorem walk_G3 {l : PySem.W.OpenLaw} {n k : Nat} {q : Program} {loose : List Str} {XP : (Str → Option Value) → Heap → Prop} {YP : World → Heap → Prop} {d : DefRec} {K : Params → PySem.W.Frag} {x : Str}
    (hn : l.most = some n) (hn2 : n ≤ sizeLine) (hdf : d.params.defaults = []) (hr : Room k callerA) (hY : ∀ (w : World) (h : Heap), YP w h → (K w.params).In h)
    (F : ∀ (w : World) (mg : Str → Option Value) (fa : Addr) (h : Heap), (K w.params).In h → h.Ns mainGlobals mg → mg d.name = some (.ref fa) →
      ∃ (i : Wld) (f : Fn) (fd : FuncData), (∀ (s : Shared) (u : Value), BindsTo s fd ⟨[u], []⟩ [(x, u)]) ∧ (∀ base : Heap, (K w.params).In base → base.Ns mainGlobals mg → FnG l.prog w (K w.params) mg base k fa fd [x] (spG (K w.params) 1 f)) ∧
        ∀ ns : List Int, ns.length ≤ n → (∀ z ∈ ns, Builtin.Int.intBits z ≤ 1048576) → ∃ S', f [.d (.lst (ns.map D.int))] [] = some (.d (.bl true), S')) :
    PySem.W.WalkO q loose XP YP l.row.toRowW d [] (fun f vs => PySem.call f vs) :=
  Att.attach_callB hn hdf fun w s₀ s₁ mg mb fa o pm cd doc a vs ns G Y ho hd hcd hmg hobj hints hlen hbits hg =>
    let ⟨i, _, fd, hb, hF, hf⟩ := F w mg fa _ (hY w _ Y) G.T.g hmg
    law_callG (hY w _ Y) G.T.g G.T.b G.T.builtins G.T.nolimit hg hobj hints (Nat.le_trans hlen hn2) hr hF hb fun H hO hS => let ⟨_, h⟩ := hf ns hlen hbits; spG_law hO hS h
end G

set_option Elab.async false
set_option linter.all false
set_option maxRecDepth 1000000
set_option maxHeartbeats 4000000
/-! GHV: the calculus of dicts keyed by rows. -/
namespace G
variable [Wld]
open PySem PySem.Spec PyProof.Rows L2
section
variable {e : En} {S : Sto} {Q : R → En → Sto → Prop}
end
/-! ### rows as keys -/
mutual
theorem nk_inj : ∀ (d d' : D) (k : NestedKey), nk d = some k → nk d' = some k → d = d'
  | .non, d', k, h, h' => by
    cases h
    cases d' with
    | non => rfl
    | tup ds => obtain ⟨ps, _, e⟩ := Option.map_eq_some_iff.mp (show (nks ds).map NestedKey.tup = some _ from h'); cases e
    | _ => cases h'
  | .int i, d', k, h, h' => by
    cases h
    cases d' with
    | int j => cases h'; rfl
    | tup ds => obtain ⟨ps, _, e⟩ := Option.map_eq_some_iff.mp (show (nks ds).map NestedKey.tup = some _ from h'); cases e
    | _ => cases h'
  | .str x, d', k, h, h' => by
    cases h
    cases d' with
    | str j => cases h'; rfl
    | tup ds => obtain ⟨ps, _, e⟩ := Option.map_eq_some_iff.mp (show (nks ds).map NestedKey.tup = some _ from h'); cases e
    | _ => cases h'
  | .tup ds, d', k, h, h' => by
    obtain ⟨ps, e1, e2⟩ := Option.map_eq_some_iff.mp (show (nks ds).map NestedKey.tup = some _ from h)
    subst e2
    cases d' with
    | tup ds' =>
      obtain ⟨qs, e3, e4⟩ := Option.map_eq_some_iff.mp (show (nks ds').map NestedKey.tup = some _ from h')
      cases e4
      rw [nks_inj ds ds' _ e1 e3]
    | _ => cases h'
  | .bl _, _, _, h, _ => by cases h
  | .lst _, _, _, h, _ => by cases h
  | .dic _ _, _, _, h, _ => by cases h
  | .ref _, _, _, h, _ => by cases h
  | .fn _, _, _, h, _ => by cases h
theorem nks_inj : ∀ (ds ds' : List D) (ks : List NestedKey), nks ds = some ks → nks ds' = some ks → ds = ds'
  | [], ds', _, h, h' => by
    cases h
    cases ds' with
    | nil => rfl
    | cons a l => obtain ⟨p, ps, _, _, e⟩ := nks_cons h'; cases e
  | d :: ds, ds', _, h, h' => by
    obtain ⟨p, ps, h1, h2, rfl⟩ := nks_cons h
    cases ds' with
    | nil => cases h'
    | cons a l =>
      obtain ⟨q, qs, h3, h4, e⟩ := nks_cons h'
      cases e
      rw [nk_inj d a _ h1 h3, nks_inj ds l _ h2 h4]
end
theorem find_any {α : Type} (p : α → Bool) : ∀ l : List α, (l.find? p).isSome = l.any p
  | [] => rfl
  | a :: l => by
    rw [List.find?_cons, List.any_cons]
    cases p a with
    | true => rfl
    | false => simpa using find_any p l
def hasKd (kvs : List (D × D)) (k : NestedKey) : Bool := kvs.any fun q => decide (nk q.1 = some k)
theorem valKd_isSome (kvs : List (D × D)) (k : NestedKey) : (valKd kvs k).isSome = hasKd kvs k := by
  unfold valKd hasKd
  rw [Option.isSome_map, find_any]
theorem hasKd_put {kvs : List (D × D)} {kd d : D} {k k' : NestedKey} (hk : nk kd = some k) : hasKd (putKd kvs kd k d) k' = (hasKd kvs k' || decide (k = k')) := by
  unfold putKd
  rw [valKd_isSome]
  have em : hasKd (kvs.map (setKd k d)) k' = hasKd kvs k' := by
    unfold hasKd
    rw [List.any_map]
    refine congrArg (fun f => List.any kvs f) ?_
    funext q
    show decide (nk (setKd k d q).1 = some k') = _
    unfold setKd
    split <;> rfl
  split
  · rename_i h
    rw [em]
    by_cases e : k = k'
    · subst e; rw [h]; rfl
    · simp [e]
  · unfold hasKd
    rw [List.any_append]
    simp [hk]
theorem hasKd_merge {k' : NestedKey} : ∀ (ps : List Tr) (kvs : List (D × D)), (∀ p ∈ ps, nk p.1 = some p.2.1) → hasKd (mergeKd kvs ps) k' = (hasKd kvs k' || ps.any fun p => decide (p.2.1 = k'))
  | [], kvs, _ => by simp [mergeKd]
  | p :: ps, kvs, h => by
    have e : mergeKd kvs (p :: ps) = mergeKd (putKd kvs p.1 p.2.1 p.2.2) ps := rfl
    rw [e, hasKd_merge ps _ fun q hq => h q (List.mem_cons_of_mem p hq), hasKd_put (h p (by simp)), List.any_cons, Bool.or_assoc]
theorem kdsOf_nk : ∀ {ds : List D} {ps : List Tr}, kdsOf ds = some ps → ∀ p ∈ ps, rk p.1 = some p.2.1
  | [], _, h, p, hp => by cases h; cases hp
  | d :: ds, _, h, p, hp => by
    obtain ⟨kd, vd, k, cs, rfl, hk, e1, rfl⟩ := kdsOf_cons h
    rcases List.mem_cons.mp hp with rfl | hp
    · exact hk
    · exact kdsOf_nk e1 p hp
/-- {x: v for x in ds} holds just these -/
theorem kdsOf_map (f : D → D) : ∀ {ds : List D}, (∀ d ∈ ds, ∃ k, rk d = some k) → ∃ ps, kdsOf (ds.map fun d => .tup [d, f d]) = some ps ∧ ps.map (·.1) = ds
  | [], _ => ⟨[], rfl, rfl⟩
  | d :: ds, h => by
    obtain ⟨ps, h1, h2⟩ := kdsOf_map f (ds := ds) fun x hx => h x (by simp [hx])
    obtain ⟨k, hk⟩ := h d (by simp)
    exact ⟨(d, k, f d) :: ps, kdsOf_mk hk h1, by rw [List.map_cons, h2]⟩
end G

set_option Elab.async false
set_option linter.all false
set_option maxRecDepth 1000000
set_option maxHeartbeats 4000000
/-! GXA: exceptions of an own class with one field: made, raised. -/
namespace G
variable [Wld]
open PySem PySem.Spec PyProof.Rows L2
section
variable {X : Cx} {x : Str} {VC : Addr} {e : Expr} {es : List Expr} {ta : TA} {p1 p2 pos : Pos}
theorem pe_vinit {pl : Sem Bool} (hg : Gl X x) (hm : X.mg x = some (.ref VC)) (rd : PySem.W.readsIn X.K VC (.type "type") = true) (ga : PySem.W.specialIn X.K (.ref VC) "__getattribute__" = some (some (.builtin "type.__getattribute__")))
    (vV : PySem.W.findCls X.K (.ref VC) (.type "type") "__init__" = some (.val (.builtin "ValueError.__init__"))) (ha : PA X (e :: es) ta) (hdb : (x == ("__debug__" : Str)) = false := by decide)
    (hc : eval (.Call (.Attribute (.Name x p1) "__init__" p2) (e :: es) [] pos) X.env = (do
      let ov ← eval (.Name x p1) X.env
      standAt p2.atName
      let (f, first) ← holding [ov] (getMethod ov "__init__" pl)
      callWith pos f first (backTo pos (starEach (e :: es) X.env)) (backToKw pos (keywordEach [] X.env))) := by rfl)
    (he : starEach (e :: es) X.env = (false, eval e X.env) :: starEach es X.env := by rfl) (hpl : (backTo pos (starEach es X.env)).any (·.1) = false := by rfl) :
    PE X (.Call (.Attribute (.Name x p1) "__init__" p2) (e :: es) [] pos) (tVeI X.K ta) := by
  refine ⟨fun pins s σ H Q I h => ?_⟩
  refine PySem.W.methodCall_KW (ld_glob I hg hm ?_ hdb) hc
  refine PySem.W.method_cls I.kIn ga (PySem.W.cls_value I.kIn rd vV rfl ?_)
  show wpAny _ _ (callWith pos (Value.builtin "ValueError.__init__") [] (backTo pos (starEach (e :: es) X.env)) []) _ _ _
  refine PyProof.Rows.callWith_method1 (thn (ha.run pos pins _ σ H _ (I.tok _) h) fun us s1 hh => ?_) he hpl
  obtain ⟨vs, H1, I1, r1, a, C, ws, ev, hl, T, ea, q⟩ := hh
  subst ev
  cases r1 with
  | @cons _ u0 _ ur ra rw' =>
    obtain rfl : u0 = Value.ref a := ra
    have hlen : ur.length ≤ sizeLine := by
      have := Paired.length rw'
      rw [sizeLine_eq]
      omega
    exact oinit_ok T I1 ea hlen fun s' J => ⟨.non, H1, J, rfl, q⟩
end
end G

set_option Elab.async false
set_option linter.all false
set_option maxRecDepth 1000000
set_option maxHeartbeats 4000000
/-! GXB: statements that may raise an exception of the class at C, told by its one field f. -/
namespace G
variable [Wld]
open PySem PySem.Spec PyProof.Rows L2
abbrev Fx := Fl ⊕ D
def EndX (K : PySem.W.Frag) (C : Addr) (f : Str) (W : WX) (D : Ends) (H : Hp) (ι : List Addr) (σ : SV) (e e' : En) (S' : Sto) : Fx → Prop
  | .inl .nx => ∀ σ' H' ι', Rel K H' ι' σ' e' S' → Post H ι σ e H' ι' σ' e' → D.nx σ' H'
  | .inl .bk => ∀ σ' H' ι', Rel K H' ι' σ' e' S' → Post H ι σ e H' ι' σ' e' → D.bk σ' H'
  | .inl .ct => ∀ σ' H' ι', Rel K H' ι' σ' e' S' → Post H ι σ e H' ι' σ' e' → D.ct σ' H'
  | .inl (.rt r) => ∀ v σ' H' ι', Rel K H' ι' σ' e' S' → Post H ι σ e H' ι' σ' e' → RRr K H ι σ e H' ι' v r → D.rt v H'
  | .inr x => ∀ σ' H' ι' dd fs v, Rel K H' ι' σ' e' S' → Post H ι σ e H' ι' σ' e' → H' dd = some (.xd fs) → fs.lookup f = some v → RD K H' ι' v x → W (.ref C) (some dd) σ' H'
def tGX (K : PySem.W.Frag) (C : Addr) (f : Str) (W : WX) (m : M Fx) : TS := fun D σ H => ∃ ι e S fl e' S', Rel K H ι σ e S ∧ m e S = some (fl, e', S') ∧ EndX K C f W D H ι σ e e' S' fl
abbrev GXS (X : Cx) (C : Addr) (f : Str) (W : WX) (st : Stmt) (m : M Fx) : Prop := PS X st (tGX X.K C f W m)
abbrev GXs (X : Cx) (C : Addr) (f : Str) (W : WX) (st : List Stmt) (m : M Fx) : Prop := PSs X st (tGX X.K C f W m)
def xLift (m : M Fl) : M Fx := bnd m fun fl => pur (.inl fl)
def xSeq (a b : M Fx) : M Fx := bnd a fun fl => match fl with
  | .inl .nx => b
  | z => pur z
def xIf (mt : M Bool) (a b : M Fx) : M Fx := bnd mt fun x => if x = true then a else b
def xRaise (m : M R) : M Fx := bnd m fun r => match r with
  | .d x => pur (.inr x)
  | _ => stk
section
variable {X : Cx} {C : Addr} {f : Str} {W : WX} {st : Stmt} {rest : List Stmt} {a b : M Fx} {mt : M Bool} {pos : Pos}
/-! ### for -/
noncomputable def xforL (t : Tgt) (body : M Fx) (ws : List (R × List D)) : List D → M Fx
  | [] => fun e S => if wat ws e S then some (.inl .nx, e, S) else none
  | d :: ds => fun e S => if wat ws e S then (match t d e with
    | some e1 => match body e1 S with
      | some (.inl .nx, e2, S2) => xforL t body ws ds e2 S2
      | some (.inl .ct, e2, S2) => xforL t body ws ds e2 S2
      | some (.inl .bk, e2, S2) => some (.inl .nx, e2, S2)
      | some (.inl (.rt r), e2, S2) => some (.inl (.rt r), e2, S2)
      | some (.inr x, e2, S2) => some (.inr x, e2, S2)
      | none => none
    | none => none) else none
noncomputable def xFor (t : Tgt) (mi : M Src) (body : M Fx) : M Fx := bnd mi fun src => if (src.ws.all fun p => isRef p.1) then xforL t body src.ws src.items else stk
/-! ### raise -/
/-- what C's own __init__ does: its one field is set -/
def spInit (C : Addr) (f : Str) : Sp := fun vs H Q _ => ∃ a v, vs = [.ref a, v] ∧ H a = some (exo a C none) ∧ ∀ dx, H dx = none → dx ≠ a → Q .non (upd (upd H dx (exd dx [(f, v)])) a (exo a C (some dx)))
/-- an exception class of the text with one field -/
structure XCls (P : Program) (w : World) (K : PySem.W.Frag) (mg : Str → Option Value) (base : Heap) (k : Nat) (x : Str) (C : Addr) (f : Str) : Prop where
  T : OexC K C
  mg_ : mg x = some (.ref C)
  ini : ∃ fI fd ps, PySem.W.findIn K (.ref C) "__init__" = some (some (.ref fI)) ∧ PySem.W.typeIn K (.ref fI) = some (.type "function") ∧ FnOk P w K mg base CX0 k fI fd ps (spInit C f) ∧ Binds K fd ps []
theorem xd_back {H1 : Hp} {a dx C : Addr} {u o : HO} {fs : List (Str × V)} (ha : H1 a = none) (hd : dx ≠ a) : upd (del (upd (upd (upd H1 a (exo a C none)) dx u) a o) a) dx (.xd fs) = upd H1 dx (.xd fs) := by
  funext b
  by_cases h1 : b = dx
  · subst h1; rw [upd_same, upd_same]
  · rw [upd_ne h1, upd_ne h1]
    by_cases h2 : b = a
    · subst h2; rw [del_same, ha]
    · rw [del_ne h2, upd_ne h2, upd_ne h1, upd_ne h2]
end
end G

set_option Elab.async false
set_option linter.all false
set_option maxRecDepth 1000000
set_option maxHeartbeats 4000000
/-! GXC: defs that may raise: their bodies, their calls. -/
namespace G
variable [Wld]
open PySem PySem.Spec PyProof.Rows L2
abbrev FnX := List Sl → Sto → Option ((Rt ⊕ D) × Sto)
def runX (nl : Nat) (body : M Fx) : FnX := fun sls S => match body (sls.map some ++ List.replicate nl none) S with
  | some (.inl (.rt r), _, S') => some (.inl r, S')
  | some (.inl .nx, _, S') => some (.inl (.d .non), S')
  | some (.inr x, _, S') => some (.inr x, S')
  | _ => none
def EndC (K : PySem.W.Frag) (C : Addr) (f : Str) (H : Hp) (ι : List Addr) (S' : Sto) (Q : VK) (E : XK) : Rt ⊕ D → Prop
  | .inl r => ∀ v H' ι', RelS K H' ι' S' → PostC H ι H' ι' → RRt K H H' ι' v r → Q v H'
  | .inr x => ∀ H' ι' dd fs v, RelS K H' ι' S' → PostC H ι H' ι' → H' dd = some (.xd fs) → fs.lookup f = some v → RD K H' ι' v x → E (.ref C) (some dd) H'
def spX (K : PySem.W.Frag) (n : Nat) (C : Addr) (f : Str) (m : FnX) : Sp := fun vs H Q E => vs.length = n ∧ ∃ ι sls S r S', RelS K H ι S ∧ RSls K H ι vs sls ∧ m sls S = some (r, S') ∧ EndC K C f H ι S' Q E r
/-- FnOk, where no guard stands; what it lets out is told -/
structure FnXG (P : Program) (w : World) (K : PySem.W.Frag) (mg : Str → Option Value) (base : Heap) (k : Nat) (f : Addr) (fd : FuncData) (ps : List Str) (sp : Sp) : Prop where
  len : ∀ vs H Q E, sp vs H Q E → vs.length = ps.length
  run : ∀ (A : Around) (outer : List PySem.Env) (s : Shared) (H : Hp) (args : Args) (us : List Value) (vs : List V) (Q : VK) (E : XK), Room k A → A.guards = some [] → Env0 P w K mg base A outer s H →
    BindsTo s fd args (ps.zip us) → Vals vs us → sp vs H Q E → codeAny (model P w) A (.call (.ref f) args) (CR (L2.CX P w) outer P w H s Q E) s
section
variable {P : Program} {w : World} {K : PySem.W.Frag} {mg : Str → Option Value} {base : Heap}
theorem FnXG.of {x qual : Str} {st : Stmt} {f : Addr} {fd : FuncData} {N ps : List Str} {k : Nat} {sp : Sp} (F : Fun K x qual st f fd) (S : FnScope N ps (defScope st)) (len : ∀ vs H Q E, sp vs H Q E → vs.length = ps.length)
    (body : ∀ (cdv : Value) (A : Around) (outer : List PySem.Env) (s : Shared) (H : Hp) (vs : List V) (Q : VK) (E : XK), Room k (A.deeper (envOfC qual (defScope st) s.heap.objs.size f cdv)) → (A.deeper (envOfC qual (defScope st) s.heap.objs.size f cdv)).guards = some [] → sp vs H Q E →
      ∃ t, PSs (cxOf (L2.CX P w) P w K mg base N qual (defScope st) f cdv A outer s H E) (defBody st) t ∧ t { nx := fun _ H' => Q .non H', rt := Q } (start N vs) H) :
    FnXG P w K mg base (k + 1) f fd ps sp := by
  obtain ⟨oc, od, kV, doc, pm, an, cdv, ct, osl, rfl, lk, hcd⟩ := F.ex
  refine ⟨len, fun A outer s H args us vs Q E hr hg e0 hb r hsp => ?_⟩
  have hl := len _ _ _ _ hsp
  have hK : K.In s.heap := e0.mod.kin.keeps fun b o z => (e0.bs b o z).1
  have hlim : s.heap.NoLimit := e0.mod.nolimit.keeps fun b o z => (e0.bs b o z).1
  refine codeAny_call_function hr.depth (hK _ _ lk) rfl S.co S.gen rfl (PySem.W.codeRec_of hK hcd) (hb _ _ _ _ ?_)
  refine wpAny_newFunctionEnv_cells S.kind (fun p hp => ?_) fun env he s1 x => ?_
  · rcases S.par p.1 (List.of_mem_zip (show (p.1, p.2) ∈ ps.zip us from hp)).1 with z | z
    · exact .inl z
    · exact .inr ⟨z, PySem.W.cellsFrom_some _ _ _ (.inl z)⟩
  subst he
  refine ⟨hlim.keeps x.toInCall.keep, codeAny_func ?_⟩
  obtain ⟨t, ht, hq⟩ := body cdv A outer s H vs Q E (hr.deeper _) (deeper_guards hg) hsp
  have I := inv_start (CX := L2.CX P w) (E := E) S hr.hd e0 hl r x
  refine wpAny_mono (ht.run [] s1 (start N vs) H _ I hq) (fun fl s' hs => ?_) fun _ _ z => z
  match fl, hs with
  | .ret u, ⟨v, σ', H', J, rv, z⟩ => exact ⟨v, H', J.os, J.bare, J.base, J.hok, rv, z⟩
  | .next, ⟨σ', H', J, z⟩ => exact ⟨.non, H', J.os, J.bare, J.base, J.hok, rfl, z⟩
  | .brk, ⟨σ', H', J, z⟩ => exact z.elim
  | .cont, ⟨σ', H', J, z⟩ => exact z.elim
theorem fnx_ok {x qual : Str} {st : Stmt} {fa C : Addr} {f : Str} {fd : FuncData} {N ps : List Str} {k : Nat} {body : M Fx} (F : Fun K x qual st fa fd) (Sc : FnScope N ps (defScope st))
    (h : ∀ (cdv : Value) (A : Around) (outer : List PySem.Env) (s : Shared) (H : Hp) (vs : List V) (Q : VK) (E : XK), Room k (A.deeper (envOfC qual (defScope st) s.heap.objs.size fa cdv)) → (A.deeper (envOfC qual (defScope st) s.heap.objs.size fa cdv)).guards = some [] →
      GXs (cxOf (L2.CX P w) P w K mg base N qual (defScope st) fa cdv A outer s H E) C f (fun cls d _ H => E cls d H) (defBody st) body) :
    FnXG P w K mg base (k + 1) fa fd ps (spX K ps.length C f (runX (N.length - ps.length) body)) := by
  refine FnXG.of F Sc (fun vs H Q E q => q.1) fun cdv A outer s H vs Q E hr hgd q => ?_
  refine ⟨_, h cdv A outer s H vs Q E hr hgd, ?_⟩
  obtain ⟨hl, ι, sls, S, r, S', R, hs, hm, q⟩ := q
  have hl2 := hs.length
  unfold runX at hm
  rw [show ps.length = sls.length by omega] at hm
  have R0 := R.start (N := N) hs
  have fin : ∀ {σ' : SV} {e' : En} {H' : Hp} {ι' : List Addr} {S' : Sto}, Rel K H' ι' σ' e' S' → Post H ι (L2.start N vs) (sls.map some ++ List.replicate (N.length - sls.length) none) H' ι' σ' e' → RelS K H' ι' S' ∧ PostC H ι H' ι' := fun R' P' =>
    ⟨R'.s, P'.pre, P'.stay, P'.dom, fun a o h1 h2 => let ⟨q1, q2, _⟩ := P'.keep a o h1 h2 (no_own hs a); ⟨q1, q2⟩⟩
  split at hm
  · rename_i r0 e' S1 hb
    cases hm
    refine ⟨ι, _, S, _, e', _, R0, hb, fun v σ' H' ι' R' P' r' => ?_⟩
    obtain ⟨Rs, Pc⟩ := fin R' P'
    refine q v H' ι' Rs Pc ?_
    cases r0 with
    | d x => exact r'
    | new o =>
      obtain ⟨a, rfl, ro, n, nk⟩ := r'
      refine ⟨a, rfl, ro, n, ?_⟩
      cases hq : H a with
      | none => rfl
      | some u =>
        refine (nk u hq (fun hm => ?_) (no_own hs a)).elim
        obtain ⟨l, e⟩ := P'.pre
        exact n (e ▸ List.mem_append_left _ hm)
  · rename_i e' S1 hb
    cases hm
    refine ⟨ι, _, S, _, e', _, R0, hb, fun σ' H' ι' R' P' => ?_⟩
    obtain ⟨Rs, Pc⟩ := fin R' P'
    exact q .non H' ι' Rs Pc .non
  · rename_i x0 e' S1 hb
    cases hm
    refine ⟨ι, _, S, _, e', _, R0, hb, fun σ' H' ι' dd fs v R' P' h1 h2 h3 => ?_⟩
    obtain ⟨Rs, Pc⟩ := fin R' P'
    exact q H' ι' dd fs v Rs Pc h1 h2 h3
  · cases hm
end
section
variable {X : Cx} {k : Nat} {fa C : Addr} {fd : FuncData} {ps : List Str} {sp : Sp} {W : WX}
/-- a def of the text that may raise, and what it computes -/
structure GFX (P : Program) (w : World) (K : PySem.W.Frag) (mg : Str → Option Value) (base : Heap) (k : Nat) (x : Str) (n : Nat) (C : Addr) (f : Str) (m : FnX) : Prop where
  ex : ∃ fa fd ps, FnXG P w K mg base k fa fd ps (spX K n C f m) ∧ mg x = some (.ref fa) ∧ PySem.W.keepIn K (.ref fa) = true ∧ Binds K fd ps []
/-- y = x(..), which may raise -/
def xSetC (i n : Nat) (xf : FnX) (ms : M (List R)) : M Fx := bnd ms fun rs => if rs.length = n then (fun e S => match toArgs rs e with
  | some sls => (match xf sls S with
    | some (.inl r, S') => (setS i r.r e S').map fun z => (.inl z.1, z.2)
    | some (.inr x, S') => some (.inr x, e, S')
    | none => none)
  | none => none) else stk
end
end G

set_option Elab.async false
set_option linter.all false
set_option maxRecDepth 1000000
set_option maxHeartbeats 4000000
/-! GXD: try .. except .. as e: the suite's reading; isinstance of what was caught. -/
namespace G
variable [Wld]
open PySem PySem.Spec PyProof.Rows L2
section
variable {K : PySem.W.Frag} {H : Hp} {ι : List Addr} {σ : SV} {e : En} {S : Sto}
theorem set_none_at {i j : Nat} {s : Sl} (h : (e.set i none)[j]? = some (some s)) : j ≠ i ∧ e[j]? = some (some s) := by
  by_cases hj : i = j
  · subst hj
    rw [List.getElem?_set] at h
    split at h
    · split at h <;> simp at h
    · exact absurd rfl ‹_›
  · rw [List.getElem?_set_ne hj] at h
    exact ⟨fun z => hj z.symm, h⟩
/-- a slot that tells nothing may hold anything -/
theorem Rel.blur (R : Rel K H ι σ e S) (i : Nat) (u : Option V) : Rel K H ι (σ.set i u) (e.set i none) S ∧ Post H ι σ e H ι (σ.set i u) (e.set i none) := by
  have sg : ∀ {j : Nat} {v : V}, j ≠ i → (σ.set i u)[j]? = some (some v) → σ[j]? = some (some v) := fun {j v} hj h => by
    rw [List.getElem?_set_ne (Ne.symm hj)] at h; exact h
  have gs : ∀ {j : Nat} {v : V}, j ≠ i → σ[j]? = some (some v) → (σ.set i u)[j]? = some (some v) := fun {j v} hj h => by
    rw [List.getElem?_set_ne (Ne.symm hj)]; exact h
  refine ⟨⟨by simp [R.len], fun j s h => ?_, R.ilen, R.st, R.nd, fun j o a h1 h2 => ?_, fun j o a h1 h2 => ?_⟩, ⟨⟨[], by simp⟩, .refl H, fun a o h => ⟨o, h⟩, fun a o h1 h2 h3 => ⟨h1, h2, ?_, fun hO => ?_⟩⟩⟩
  · obtain ⟨hj, h⟩ := set_none_at h
    obtain ⟨v, hv, hr⟩ := R.sl j s h
    exact ⟨v, gs hj hv, hr⟩
  · obtain ⟨hj, h1⟩ := set_none_at h1
    obtain ⟨q1, q2⟩ := R.own j o a h1 (sg hj h2)
    refine ⟨q1, fun k s b hk h3 hs h4 => ?_⟩
    obtain ⟨hk2, h3⟩ := set_none_at h3
    exact q2 k s b hk h3 hs (sg hk2 h4)
  · obtain ⟨hj, h1⟩ := set_none_at h1
    exact R.brw j o a h1 (sg hj h2)
  · rintro ⟨j, o', q1, q2⟩
    obtain ⟨hj, q1⟩ := set_none_at q1
    exact h3 ⟨j, o', q1, sg hj q2⟩
  · rintro ⟨j, s, q1, q2, q3⟩
    obtain ⟨hj, q1⟩ := set_none_at q1
    exact hO ⟨j, s, q1, q2, sg hj q3⟩
end
def EndG (K : PySem.W.Frag) (D : Ends) (H : Hp) (ι : List Addr) (σ : SV) (e e' : En) (S' : Sto) : Fl → Prop
  | .nx => ∀ σ' H' ι', Rel K H' ι' σ' e' S' → Post H ι σ e H' ι' σ' e' → D.nx σ' H'
  | .bk => ∀ σ' H' ι', Rel K H' ι' σ' e' S' → Post H ι σ e H' ι' σ' e' → D.bk σ' H'
  | .ct => ∀ σ' H' ι', Rel K H' ι' σ' e' S' → Post H ι σ e H' ι' σ' e' → D.ct σ' H'
  | .rt r => ∀ v σ' H' ι', Rel K H' ι' σ' e' S' → Post H ι σ e H' ι' σ' e' → RRr K H ι σ e H' ι' v r → D.rt v H'
/-- the suite's reading: slot i holds the exception, of which the field f tells x -/
def tSui (K : PySem.W.Frag) (f : Str) (i : Nat) (a dd : Addr) (h : D → M Fl) : TS := fun D σ H => ∃ ι e S x fl e' S' fs v, Rel K H ι σ e S ∧ σ[i]? = some (some (.ref a)) ∧ (∀ s, e[i]? ≠ some (some s)) ∧ H a = none ∧ H dd = some (.xd fs) ∧ fs.lookup f = some v ∧ RD K H ι v x ∧
  h x e S = some (fl, e', S') ∧ EndG K D H ι σ e e' S' fl
def mTry (i : Nat) (mb : M Fx) (h : D → M Fl) : M Fl := bnd mb fun fx => match fx with
  | .inl fl => pur fl
  | .inr x => fun e S => if i < e.length then (match h x (e.set i none) S with
    | some (.nx, e', S') => some (.nx, e'.set i none, S')
    | some (.bk, e', S') => some (.bk, e'.set i none, S')
    | some (.ct, e', S') => some (.ct, e'.set i none, S')
    | some (.rt r, e', S') => some (.rt r, e', S')
    | none => none) else none
section
variable {X : Cx} {C : Addr} {f vx n : Str} {c : Value} {i : Nat} {body suite : List Stmt} {b₀ : Stmt} {np pos pos' : Pos} {mb : M Fx} {h : D → M Fl}
/-! ### isinstance of what was caught -/
def rIsX (K : PySem.W.Frag) (C a dd : Addr) : List V → Hp → VK → Prop := fun xs H Q => (∃ fs, H dd = some (.xd fs)) ∧
  ((∃ c cv b, xs = [.ref a, c] ∧ ClsV c cv ∧ PySem.W.kitOne K (.ref C) cv = some b ∧ Q (.bl b) H) ∨ ∃ tp cs us b, xs = [.ref a, .ref tp] ∧ H tp = some (.tup cs) ∧ Paired ClsV cs us ∧ PySem.W.kitAny K (.ref C) us = some b ∧ Q (.bl b) H)
end
end G

set_option Elab.async false
set_option linter.all false
set_option maxRecDepth 1000000
set_option maxHeartbeats 4000000
/-! GXE: defs that may raise, by their text; the facts of an exception class. -/
namespace G
variable [Wld]
open PySem PySem.Spec PyProof.Rows L2
section
variable {P : Program} {w : World} {K : PySem.W.Frag} {mg : Str → Option Value} {base : Heap}
theorem FnXG.mono {j k : Nat} {f : Addr} {fd : FuncData} {ps : List Str} {sp : Sp} (F : FnXG P w K mg base j f fd ps sp) (h : j ≤ k) : FnXG P w K mg base k f fd ps sp :=
  ⟨F.len, fun A outer s H args us vs Q E hr => F.run A outer s H args us vs Q E (hr.mono h)⟩
theorem GFX.mono {j k n : Nat} {x f : Str} {C : Addr} {m : FnX} (F : GFX P w K mg base j x n C f m) (h : j ≤ k) : GFX P w K mg base k x n C f m := by
  obtain ⟨fa, fd, ps, a, b⟩ := F.ex
  exact ⟨fa, fd, ps, a.mono h, b⟩
theorem GFX.bodyOf {x qual f : Str} {st : Stmt} {N ps : List Str} {k : Nat} {C : Addr} {body : M Fx} (D : DF K mg x qual st ps) (Sc : FnScope N ps (defScope st))
    (h : ∀ (fa : Addr) (cdv : Value) (A : Around) (outer : List PySem.Env) (s : Shared) (H : Hp) (vs : List V) (Q : VK) (E : XK), Room k (A.deeper (envOfC qual (defScope st) s.heap.objs.size fa cdv)) → (A.deeper (envOfC qual (defScope st) s.heap.objs.size fa cdv)).guards = some [] →
      GXs (cxOf (L2.CX P w) P w K mg base N qual (defScope st) fa cdv A outer s H E) C f (fun cls d _ H => E cls d H) (defBody st) body) :
    GFX P w K mg base (k + 1) x ps.length C f (runX (N.length - ps.length) body) := by
  obtain ⟨fa, fd, F, hm, hb⟩ := D.ex
  exact ⟨fa, fd, ps, fnx_ok F Sc (h fa), hm, F.kp, hb⟩
theorem takesN {X : Cx} : Takes X (fun _ _ _ _ => False) := fun _ _ ⟨_, _, _, _, _, _, _, _, _, _, _, _, _, _, _, _, z⟩ => z.elim
/-- what a class body's def is -/
def clsS : Stmt → Nat → Stmt
  | .ClassDef _ _ _ body _ _ _ _ _ _ _, j => body.getD j (.Pass ⟨0, 0, 0, 0⟩)
  | s, _ => s
/-- the suite of a def's first try -/
def trySuite : List Stmt → List Stmt
  | .Try _ [.ExceptHandler _ _ b _] _ _ _ :: _ => b
  | _ :: l => trySuite l
  | [] => []
theorem oex_mk {C : Addr} {nm q N bs bm sn sub ab col dd k0 k1 k2 k3 k5} (l : K.lookup C = some (excClassObj nm q C N bs bm true sn sub ab col dd k0 k1 k2 k3 k5 "ValueError.__new__")) (r : PySem.HandSPX.refsVE bm = true)
    (sa : PySem.W.findIn K (.ref C) "__setattr__" = some (some (.builtin "object.__setattr__"))) (ex : PySem.W.subIn K (.ref C) (.type "BaseException") = some true) (ty : PySem.W.typeIn K (.ref C) = some (.type "type")) (k : PySem.W.keepIn K (.ref C) = true) : OexC K C :=
  ⟨⟨_, _, _, _, _, _, _, _, _, _, _, _, _, _, _, l, r⟩, sa, ex, ty, k⟩
/-- what is wanted of the base class whose __init__ is called -/
structure VCls (K : PySem.W.Frag) (VC : Addr) : Prop where
  rd : PySem.W.readsIn K VC (.type "type") = true
  ga : PySem.W.specialIn K (.ref VC) "__getattribute__" = some (some (.builtin "type.__getattribute__"))
  vV : PySem.W.findCls K (.ref VC) (.type "type") "__init__" = some (.val (.builtin "ValueError.__init__"))
/-- where an exception class's __init__ lies -/
structure InitAt (K : PySem.W.Frag) (C : Addr) (qual : Str) (st : Stmt) : Prop where
  ex : ∃ fI oc od kV doc pm an cdv ct osl, PySem.W.findIn K (.ref C) "__init__" = some (some (.ref fI)) ∧ PySem.W.typeIn K (.ref fI) = some (.type "function") ∧ K.lookup fI = some ⟨oc, od, .func (PySem.W.fnOf "__init__" qual (defArgs st) (defBody st) (defScope st) .none kV doc pm an cdv ct), osl⟩ ∧ PySem.W.codeIn K cdv qual = true
end
end G

set_option Elab.async false
set_option linter.all false
set_option maxRecDepth 1000000
set_option maxHeartbeats 4000000
/-! GXF: {"k": e}. -/
namespace G
variable [Wld]
open PySem PySem.Spec PyProof.Rows L2
def mD1 (k : Str) (m : M R) : M R := bnd m fun r => match r with
  | .d x => pur (.new (.dct [(.inr k, x)]))
  | _ => stk
section
variable {X : Cx} {pos : Pos}
end
end G

set_option Elab.async false
set_option linter.all false
set_option maxRecDepth 1000000
set_option maxHeartbeats 4000000
/-! GXG: tuple * int, also by 0 and by 1. -/
namespace G
open PySem PySem.Spec PyProof.Rows L2
variable [Wld]
def gMulT (rx ry : R) : M R := match rx, ry with
  | .d (.tup ds), .d (.int k) => if 0 ≤ k ∧ k ≤ 1000 ∧ ds.length ≤ 1000 ∧ ds ≠ [] then pur (.d (.tup (List.replicate k.toNat ds).flatten)) else stk
  | _, _ => stk
theorem RDs.reps {K : PySem.W.Frag} {H : Hp} {ι : List Addr} {xs : List V} {ds : List D} (h : RDs K H ι xs ds) : ∀ n : Nat, RDs K H ι (List.replicate n xs).flatten (List.replicate n ds).flatten
  | 0 => .nil
  | n + 1 => by
    rw [List.replicate_succ, List.flatten_cons, List.replicate_succ, List.flatten_cons]
    exact h.append (RDs.reps h n)
end G

set_option Elab.async false
set_option linter.all false
set_option maxRecDepth 1000000
set_option maxHeartbeats 4000000
/-! GXH: the calculus of statements that may raise. -/
namespace G
variable [Wld]
open PySem PySem.Spec PyProof.Rows L2
def Xp (f : FnX) (sls : List Sl) (S : Sto) (Q : Rt ⊕ D → Sto → Prop) : Prop := ∃ r S', f sls S = some (r, S') ∧ Q r S'
theorem Xp.mono {f : FnX} {sls : List Sl} {S : Sto} {Q Q' : Rt ⊕ D → Sto → Prop} (h : Xp f sls S Q) (w : ∀ a S, Q a S → Q' a S) : Xp f sls S Q' := let ⟨a, S', h1, h2⟩ := h; ⟨a, S', h1, w _ _ h2⟩
def flX (Q : Rt ⊕ D → Sto → Prop) : Fx → En → Sto → Prop
  | .inl (.rt r), _, S => Q (.inl r) S
  | .inl .nx, _, S => Q (.inl (.d .non)) S
  | .inr x, _, S => Q (.inr x) S
  | _, _, _ => False
section
variable {e : En} {S : Sto} {F : Fx → En → Sto → Prop} {a b : M Fx}
def xsQ (b : M Fx) (F : Fx → En → Sto → Prop) : Fx → En → Sto → Prop
  | .inl .nx, e, S => Wp b e S F
  | z, e, S => F z e S
def xrQ (F : Fx → En → Sto → Prop) : R → En → Sto → Prop
  | .d x, e, S => F (.inr x) e S
  | _, _, _ => False
/-! for -/
def lxQ (I : En → Sto → Prop) (F : Fx → En → Sto → Prop) : Fx → En → Sto → Prop
  | .inl .nx, e, S => I e S
  | .inl .ct, e, S => I e S
  | .inl .bk, e, S => F (.inl .nx) e S
  | .inl (.rt r), e, S => F (.inl (.rt r)) e S
  | .inr x, e, S => F (.inr x) e S
/-! calls, try -/
def xcQ (i : Nat) (e : En) (F : Fx → En → Sto → Prop) : Rt ⊕ D → Sto → Prop
  | .inl r, S => Wp (setS i r.r) e S fun fl => F (.inl fl)
  | .inr x, S => F (.inr x) e S
def tyQ (F : Fl → En → Sto → Prop) (i : Nat) : Fl → En → Sto → Prop
  | .rt r, e, S => F (.rt r) e S
  | fl, e, S => F fl (e.set i none) S
end
end G

set_option Elab.async false
set_option linter.all false
set_option maxRecDepth 1000000
set_option maxHeartbeats 4000000
/-! GXI: - of truths. -/
namespace G
variable [Wld]
open PySem PySem.Spec PyProof.Rows L2
def oneI (b : Bool) : Int := if b = true then 1 else 0
def gNegB (rx : R) : M R := match rx with
  | .d (.int i) => pur (.d (.int (-i)))
  | .d (.bl b) => pur (.d (.int (-(oneI b))))
  | _ => stk
/-! {"k": x}; tuple * int -/
end G

set_option Elab.async false
set_option linter.all false
set_option maxRecDepth 1000000
set_option maxHeartbeats 4000000
/-! GLA: lambdas: made, and what one promises. -/
namespace G
variable [Wld]
open PySem PySem.Spec PyProof.Rows L2 LamX NdefX
theorem lm_ne {f : Addr} {F : NF} {b : Expr} {u : HO} (h : (∀ p, u ≠ .ext p)) : u ≠ LmO f F b := fun z => h _ z
section
variable {K : PySem.W.Frag} {H H' : Hp} {ι ι' : List Addr} {σ : SV} {e : En} {S : Sto}
theorem lm_ro {f : Addr} {F : NF} {b : Expr} (h : H f = some (LmO f F b)) (o : O) : ¬ RO K H ι f o := fun r => by
  cases o with
  | lst ds => obtain ⟨xs, h1, _⟩ := r; rw [h] at h1; exact absurd (Option.some.inj h1).symm (lm_ne fun _ z => by cases z)
  | dct kvs => obtain ⟨xs, h1, _⟩ := r; rw [h] at h1; exact absurd (Option.some.inj h1).symm (lm_ne fun _ z => by cases z)
  | tab n => obtain ⟨_, ps, h1, _⟩ := r; rw [h] at h1; exact absurd (Option.some.inj h1).symm (lm_ne fun _ z => by cases z)
  | ins c ns ds => obtain ⟨dx, xs, h1, _⟩ := r; rw [h] at h1; exact absurd (Option.some.inj h1).symm (lm_ne fun _ z => by cases z)
  | kx kvs => obtain ⟨o, ws, h1, _⟩ := r; rw [h] at h1; exact absurd (Option.some.inj h1).symm (lm_ne fun _ z => by cases z)
  | kd kvs =>
    obtain ⟨o', es, ep, xs, k⟩ := r
    have z := Option.some.inj (h.symm.trans k.at_)
    unfold LmO at z
    have e1 := congrFun (HO.ext.inj z) { objs := Array.replicate (f + 1) o' }
    have hg := at_rep (a := f) (o := o') (fun q => by rw [k.dt] at q; cases q)
    obtain ⟨od, sl, pm, tv, e2⟩ := e1.mpr hg
    rw [hg] at e2
    have e3 := k.dt
    rw [Option.some.inj e2] at e3
    cases e3
theorem co_ro {c : Addr} {q : Str} (h : H c = some (CodeO c q)) (o : O) : ¬ RO K H ι c o := fun r => by
  cases o with
  | lst ds => obtain ⟨xs, h1, _⟩ := r; rw [h] at h1; exact co_lst (Option.some.inj h1).symm
  | dct kvs => obtain ⟨xs, h1, _⟩ := r; rw [h] at h1; exact co_dK (Option.some.inj h1).symm
  | tab n => obtain ⟨_, ps, h1, _⟩ := r; rw [h] at h1; exact codeO_ne _ (Option.some.inj h1)
  | ins c ns ds => obtain ⟨dx, xs, h1, _⟩ := r; rw [h] at h1; exact co_ins (Option.some.inj h1).symm
  | kx kvs => obtain ⟨o, ws, h1, _⟩ := r; rw [h] at h1; have z := (Option.some.inj h1).symm; unfold CodeO at z; cases z
  | kd kvs =>
    obtain ⟨o', es, ep, xs, k⟩ := r
    have z := Option.some.inj (h.symm.trans k.at_)
    exact (exa_ns (fun vs q => by rw [k.dt] at q; cases q) (fun q => by rw [k.dt] at q; cases q) (fun _ q => by rw [k.dt] at q; cases q) (fun _ q => by rw [k.dt] at q; cases q)).2.2.1 q z.symm
theorem RelS.lm (R : RelS K H ι S) {f : Addr} {F : NF} {b : Expr} (h : H f = some (LmO f F b)) : f ∉ ι := R.notin (lm_ro h)
theorem RelS.co (R : RelS K H ι S) {c : Addr} {q : Str} (h : H c = some (CodeO c q)) : c ∉ ι := R.notin (co_ro h)
theorem upd_two {H : Hp} {a b : Addr} {u w : HO} (h : a ≠ b) : upd (upd H a u) b w = upd (upd H b w) a u := by
  funext x
  by_cases h1 : x = b
  · subst h1; rw [upd_same, upd_ne (Ne.symm h), upd_same]
  · rw [upd_ne h1]
    by_cases h2 : x = a
    · subst h2; rw [upd_same, upd_same]
    · rw [upd_ne h2, upd_ne h2, upd_ne h1]
theorem set_same {S : Sto} {n : Nat} {o : O} (h : S[n]? = some o) : S.set n o = S := by
  apply List.ext_getElem?
  intro i
  by_cases hi : n = i
  · subst hi
    rw [List.getElem?_set_self (List.getElem?_eq_some_iff.mp h).1, h]
  · rw [List.getElem?_set_ne hi]
/-- where a table stands -/
theorem Rel.tab (R : Rel K H ι σ e S) {n : Nat} (h : S[n]? = some (.tab n)) : ι[n]? = some (Wld.tb n) ∧ TabS H (Wld.tb n) (Wld.tq n) := by
  have hl : n < ι.length := by rw [R.ilen]; exact (List.getElem?_eq_some_iff.mp h).1
  have e1 := List.getElem?_eq_getElem hl
  obtain ⟨e2, t⟩ := R.st n _ _ h e1
  rw [e2] at e1 t
  exact ⟨e1, by rw [← e2] at t ⊢; exact t⟩
/-- a table grows by a code object -/
theorem Rel.grow (R : Rel K H ι σ e S) {n : Nat} {c : Addr} {ps more : Array Value} (h : S[n]? = some (.tab n)) (nC : H c = none) (ne : Wld.tb n ≠ c)
    (t : TabS (upd (upd H (Wld.tb n) (.tbl (ps ++ more))) c (CodeO c (Wld.tq n))) (Wld.tb n) (Wld.tq n)) :
    Rel K (upd (upd H (Wld.tb n) (.tbl (ps ++ more))) c (CodeO c (Wld.tq n))) ι σ e S ∧ Post H ι σ e (upd (upd H (Wld.tb n) (.tbl (ps ++ more))) c (CodeO c (Wld.tq n))) ι σ e := by
  rw [upd_two ne] at t ⊢
  obtain ⟨R1, P1, _⟩ := R.new (u := CodeO c (Wld.tq n)) nC
  obtain ⟨hi, _⟩ := R.tab h
  obtain ⟨a, ea, _, go⟩ := R1.write (r := .d (.ref n)) (v := .ref (Wld.tb n)) (.ref hi) h rfl
  cases ea
  obtain ⟨R2, P2⟩ := go (.tbl (ps ++ more)) (.tab n) ⟨rfl, t⟩
  have es : putS (.d (.ref n)) (.tab n) S = S := set_same h
  rw [es] at R2
  exact ⟨R2, P1.trans P2⟩
end
/-- a lambda as a value: n, its maker's table -/
def tLm (X : Cx) (n : Nat) (params : Arguments) (b : Expr) (scope : Scope) : TE := fun σ H Q => ∃ ι e S, Rel X.K H ι σ e S ∧ S[n]? = some (.tab n) ∧
  ∀ f c H1, Rel X.K H1 ι σ e S → Post H ι σ e H1 ι σ e → H f = none → H1 f = some (LmO f (lmF (Wld.tq n) params scope (cloFrom X.env.cells scope.names []) c) b) → H1 c = some (CodeO c (Wld.tq n)) → Q (.ref f) H1
section
variable {X : Cx} {pins : List (Addr × PySem.Obj)} {σ : SV} {H : Hp} {s : Shared}
/-- a lambda's object just made -/
theorem inv_lm {F : NF} {b : Expr} {o : PySem.Obj} {tk : Nat} {pm tv : Value} (I : Inv X pins σ H s) (ho : o = { cls := .type "function", data := .func (PySem.W.kla_fn F.name F.qual F.params b F.scope F.cl pm (.ref F.c) tv) }) :
    Inv X pins σ (upd H s.heap.objs.size (LmO s.heap.objs.size F b)) { s with heap := s.heap.push o, toks := tk } := by
  subst ho
  have at1 := Heap.get?_push_size s.heap (o := ({ cls := .type "function", data := .func (PySem.W.kla_fn F.name F.qual F.params b F.scope F.cl pm (.ref F.c) tv) } : PySem.Obj)) rfl
  refine I.laid (fun _ _ z => Heap.get?_push_of_some _ z) (Nat.le_refl _) ⟨⟨_, _, pm, tv, at1⟩, ⟨_, at1⟩, ?_⟩
  rintro h1 h2 ⟨od, sl, p, t, z⟩ st
  exact ⟨od, sl, p, t, st _ z⟩
theorem pe_lm {n : Nat} {c : Addr} {params : Arguments} {b : Expr} {scope : Scope} {pos : Pos} (TB : TabB X.base X.mg c (Wld.tb n)) (hcode : X.env.code = .ref c) (hq : Wld.tq n = X.env.qual ++ "<lambda>") (hdef : defaultsOf params X.env = ([], []) := by rfl)
    (hfree : ∀ y ∈ scope.names, y.2 = .free → X.env.scope.names.lookup y.1 = some .cell ∨ X.env.scope.names.lookup y.1 = some .free := by decide) : PE X (.Lambda params b scope pos) (tLm X n params b scope) := by
  refine ⟨fun pins s σ H Q I h => ?_⟩
  obtain ⟨ι, e, S, R, hS, fin⟩ := h
  obtain ⟨hi, ps, hP, tok, tall⟩ := R.tab hS
  have fr : ∀ y ∈ scope.names, y.2 = .free → ∃ c, X.env.cells.lookup y.1 = some c := fun y hy z => I.ok.has _ ((hfree y hy z).elim .inl .inr)
  have bP := TB.bm.keeps I.bk
  have gP : s.heap.get? (Wld.tb n) = some { cls := .none, data := .fields ps } := I.hok _ _ hP
  refine PySem.W.kla_eval hdef ?_
  rw [← hq]
  -- what is left, behind the code object
  have last : ∀ {h' : Heap} {tk : Nat} {H1 : Hp} {c' : Addr} {tv : Value}, Inv X pins σ H1 { s with heap := h', toks := tk } → Rel X.K H1 ι σ e S → Post H ι σ e H1 ι σ e → H1 c' = some (CodeO c' (Wld.tq n)) →
      EP X pins σ Q (.ref h'.objs.size) { s with heap := h'.push (PySem.W.kla_obj "<lambda>" (Wld.tq n) params b scope (cloFrom X.env.cells scope.names []) ((X.mg "__name__").getD .none) c' tv), toks := tk } := fun {h' tk H1 c' tv} I1 R1 P1 hc => by
    have n1 : H1 h'.objs.size = none := I1.hok.fresh (Nat.le_refl _)
    have I2 := inv_lm (F := lmF (Wld.tq n) params scope (cloFrom X.env.cells scope.names []) c') (b := b) (pm := (X.mg "__name__").getD .none) (tv := tv) (tk := tk) I1 rfl
    obtain ⟨R2, P2, _⟩ := R1.new (u := LmO h'.objs.size (lmF (Wld.tq n) params scope (cloFrom X.env.cells scope.names []) c') b) n1
    exact ⟨.ref h'.objs.size, _, I2, rfl, fin _ c' _ R2 (P1.trans P2) (P1.back n1) upd_same ((upd_ne (ne_of_none hc n1)).trans hc)⟩
  cases hc : codeAmong pos ps.toList with
  | some cv =>
    obtain ⟨c', rfl, hco⟩ := tall pos cv hc
    refine PySem.W.kla_makeFunctionHit (closure_ok fr) I.ok.glob (I.mod.glob.keeps I.bk) hcode (TB.code.keeps I.bk) gP tok hc bP fun tv h' tk keep _ => ?_
    exact last (I.kept keep) R .refl hco
  | none =>
    refine PySem.W.kla_makeFunction (closure_ok fr) I.ok.glob (I.mod.glob.keeps I.bk) hcode (TB.code.keeps I.bk) gP tok hc TB.gP bP fun c' tv h' tk ext ge lt rec tab => ?_
    obtain ⟨c2, oc, vs, t, z, g1, g2, g3⟩ := rec
    cases z
    have nC : H c' = none := I.hok.fresh ge
    have ne : Wld.tb n ≠ c' := ne_of_none hP nC
    have I1 := inv_table (t' := tk) (h' := h') (q := Wld.tq n) (more := #[rawInt pos.line, rawInt pos.col, .ref c']) I hP (fun a o z y => ext a o z y) tab ge ⟨oc, vs, t, g1, g2, g3⟩
    have T1 : TabS (upd (upd H (Wld.tb n) (.tbl (ps ++ #[rawInt pos.line, rawInt pos.col, .ref c']))) c' (CodeO c' (Wld.tq n))) (Wld.tb n) (Wld.tq n) := by
      have el : (ps ++ #[rawInt pos.line, rawInt pos.col, .ref c']).toList = ps.toList ++ [rawInt pos.line, rawInt pos.col, .ref c'] := by simp
      refine ⟨_, (upd_ne ne).trans upd_same, by rw [el]; exact PySem.TriplesOk_snoc _ _ _ _ tok, fun p cv z => ?_⟩
      rw [el] at z
      rcases among_app _ tok z with z | z
      · obtain ⟨c0, e1, e2⟩ := tall p cv z
        exact ⟨c0, e1, (upd_ne (ne_of_none e2 nC)).trans ((upd_ne fun y => codeO_ne ps (Option.some.inj (e2.symm.trans (by rw [y]; exact hP)))).trans e2)⟩
      · exact ⟨c', z, upd_same⟩
    obtain ⟨R1, P1⟩ := R.grow hS nC ne T1
    exact last I1 R1 P1 upd_same
end
end G

set_option Elab.async false
set_option linter.all false
set_option maxRecDepth 1000000
set_option maxHeartbeats 4000000
/-! GLB: what a lambda promises, by its body. -/
namespace G
variable [Wld]
open PySem PySem.Spec PyProof.Rows L2 LamX NdefX
/-- what captured names hold; none: nothing is known -/
def RWs (K : PySem.W.Frag) (H : Hp) (ι : List Addr) (ws : List (Option V)) (cs : List (Option D)) : Prop := Paired (fun w c => ∀ x, c = some x → ∃ v, w = some v ∧ RD K H ι v x) ws cs
theorem RWs.mono {K : PySem.W.Frag} {H H' : Hp} {ι ι' : List Addr} {ws : List (Option V)} {cs : List (Option D)} (h : RWs K H ι ws cs) (P : PostC H ι H' ι') : RWs K H' ι' ws cs :=
  Paired.mapP h fun w c z x hx => let ⟨v, e, r⟩ := z x hx; ⟨v, e, RD.mono P.stay P.pre _ _ r⟩
theorem paired_len {α β : Type} {R : α → β → Prop} : ∀ {l : List α} {m : List β}, Paired R l m → l.length = m.length
  | _, _, .nil => rfl
  | _, _, .cons _ t => by simp [paired_len t]
theorem paired_get' {α β : Type} {R : α → β → Prop} : ∀ {l : List α} {m : List β} {i : Nat} {b : β}, Paired R l m → m[i]? = some b → ∃ a, l[i]? = some a ∧ R a b
  | _, _, _, _, .nil, h => by simp at h
  | _, _, 0, _, .cons r _, h => by simp at h; subst h; exact ⟨_, rfl, r⟩
  | _, _, i + 1, _, .cons _ t, h => by
    obtain ⟨a, h1, h2⟩ := paired_get' t (by simpa using h)
    exact ⟨a, by simpa using h1, h2⟩
abbrev lamE (sls : List Sl) (cs : List (Option D)) (nl : Nat) : En := sls.map some ++ (cs.map (Option.map Sl.d) ++ List.replicate nl none)
/-- the body of a lambda as what it computes: cs, what it captured -/
def lamF (nl : Nat) (m : M R) (cs : List (Option D)) : Fn := fun sls S => match m (lamE sls cs nl) S with
  | some (.d x, _, S') => some (.d x, S')
  | some (.new o, _, S') => some (.new o, S')
  | _ => none
section
variable {K : PySem.W.Frag} {H : Hp} {ι : List Addr} {vs : List V} {sls : List Sl} {S : Sto} {N : List Str} {ws : List (Option V)} {cs : List (Option D)}
end
/-- the promise of a lambda -/
structure LOk (P : Program) (w : World) (K : PySem.W.Frag) (mg : Str → Option Value) (base : Heap) (k : Nat) (q : Str) (params : Arguments) (b : Expr) (scope : Scope) (np : Nat) (fr : List Str) (m : List (Option D) → Fn) : Prop where
  run : ∀ (A : Around) (outer : List PySem.Env) (s : Shared) (H : Hp) (f c : Addr) (cl : List (Str × Addr)) (us : List Value) (vs : List V) (ws : List (Option V)) (cs : List (Option D)) (ι : List Addr) (sls : List Sl) (S : Sto) (r : Rt) (S' : Sto),
    Room k A → A.guards = some [] → Env0 P w K mg base A outer s H → H f = some (LmO f (lmF q params scope cl c) b) → H c = some (CodeO c q) → CellsAt cl fr ws s.heap H → Vals vs us → vs.length = np →
    RelS K H ι S → RSls K H ι vs sls → RWs K H ι ws cs → m cs sls S = some (r, S') →
    codeAny (model P w) A (.call (.ref f) ⟨us, []⟩) (CR CX0 outer P w H s (fun v H' => ∃ ι', RelS K H' ι' S' ∧ PostC H ι H' ι' ∧ RRt K H H' ι' v r) E0) s
section
variable {P : Program} {w : World} {K : PySem.W.Frag} {mg : Str → Option Value} {base : Heap} {k : Nat} {q : Str} {params : Arguments} {b : Expr} {scope : Scope} {N ps fr : List Str} {m : M R}
theorem LOk.mono {j np : Nat} {m : List (Option D) → Fn} (L : LOk P w K mg base j q params b scope np fr m) (h : j ≤ k) : LOk P w K mg base k q params b scope np fr m :=
  ⟨fun A outer s H f c cl us vs ws cs ι sls S r S' hr => L.run A outer s H f c cl us vs ws cs ι sls S r S' (hr.mono h)⟩
end
end G

set_option Elab.async false
set_option linter.all false
set_option maxRecDepth 1000000
set_option maxHeartbeats 4000000
/-! GLC: sorted(xs, key=lambda .., reverse=..). -/
namespace G
variable [Wld]
open PySem PySem.Spec PyProof.Rows PySem.W L2 LamX NdefX
section
variable {prog : Program} {w : World} {A : Around} {E : Value → Shared → Prop} {s : Shared}
open PySem.Calls in
theorem srt_sortedK {Q : Value → Shared → Prop} {l q : Addr} {rev : Bool} {kw : List (Str × Value)} {xs : List Value} {kz : List PyData} {J : Nat → List Value → Shared → Prop} (hl : s.heap.IsList l xs.toArray)
    (ha1 : argsOk "sorted" ⟨[.ref l], kw⟩) (ha2 : ∀ x, argsOk "list.sort" ⟨[.ref x], kw⟩) (ht : ∀ x, Builtin.«list.sort» ⟨[.ref x], kw⟩ = ksk_tree x (.ref q) rev)
    (L : Leads prog w A.in1.in1 (.ref q) xs kz (s.heap.objs.size + 1) (s.heap.objs.size + 3) J) (h0 : ∀ g tk ea, (∀ b o, s.heap.get? b = some o → g.get? b = some o) → g.get? (s.heap.objs.size + 1) = some (seqObj "list" #[] ea) → g.get? (s.heap.objs.size + 3) = some (seqObj "list" #[] 0) → J 0 [] { s with heap := g, toks := tk })
    (zk : kz.length = xs.length) (zx : xs.length ≤ sizeLine) (al : AllAlike kz) (so : Sortable kz) (room : ∀ d, d ∈ kz → A.units + 2 + d.depth < cLine)
    (fin : ∀ ks t, J xs.length ks t → ∀ g tk n out, But2 (s.heap.objs.size + 1) (s.heap.objs.size + 3) t.heap g → g.get? (s.heap.objs.size + 1) = some (seqObj "list" (List.toArray out) n) → KeyedOut rev kz xs out → Q (.ref (s.heap.objs.size + 1)) { t with heap := g, toks := tk }) :
    wpAny (model prog w) A (call (.builtin "sorted") [.ref l] kw) Q E s := by
  have sz : (copyHeap s.heap xs).objs.size = s.heap.objs.size + 2 := by
    unfold copyHeap
    rw [size_push', Heap.size_update, size_push']
  refine sorted_of_sort hl zx ha1 ha2 fun E' => ?_
  rw [ht]
  refine srt_tree (s := { s with heap := copyHeap s.heap xs }) (copyHeap_at s.heap xs) (J := J) (kz := kz) ?_ ?_ zk zx al so ?_ ?_
  · show Leads prog w A.in1.in1 (.ref q) xs kz (s.heap.objs.size + 1) ((copyHeap s.heap xs).objs.size + 1) J
    rw [sz]; exact L
  · intro g tk ea hg ha hc
    have hc' : g.get? ((copyHeap s.heap xs).objs.size + 1) = some (seqObj "list" #[] 0) := hc
    rw [sz] at hc'
    exact h0 g tk ea (fun b o e => hg b o (Nat.ne_of_lt (Nat.lt_succ_of_lt (Heap.lt_size e))) (copyHeap_old e)) ha hc'
  · intro d hd
    have := room d hd
    simpa using this
  · intro ks t hJ g tk n out b2 got ko
    refine ⟨rfl, fin ks t hJ g tk n out ?_ got ko⟩
    have b2' : But2 (s.heap.objs.size + 1) ((copyHeap s.heap xs).objs.size + 1) t.heap g := b2
    rw [sz] at b2'
    exact b2'
end
section
variable {X : Cx}
/-- what a key's call gives, whoever the key is -/
def KeyCall (X : Cx) (pins : List (Addr × PySem.Obj)) (σ : SV) (H : Hp) (ι : List Addr) (S : Sto) (q : Addr) (f : Fn) : Prop :=
  ∀ (t : Shared) (H' : Hp) (ι' : List Addr) (x : Value) (v : V) (d : D) (r : Rt) (E : Value → Shared → Prop), Inv X pins σ H' t → RelS X.K H' ι' S → PostC H ι H' ι' → RelV v x → RD X.K H' ι' v d → f [.d d] S = some (r, S) →
    wpAny (model X.prog X.w) X.A.in1.in1 (call (.ref q) [x]) (fun u t' => ∃ w H2 ι2, Inv X pins σ H2 t' ∧ RelV w u ∧ RelS X.K H2 ι2 S ∧ PostC H' ι' H2 ι2 ∧ RRt X.K H' H2 ι2 w r) E t
end
/-! ### the mirror, the rule -/
/-- what a captured name holds -/
def capt (e : En) (j : Nat) : Option D := match e[j]? with
  | some (some (.d x)) => some x
  | _ => none
open Classical in
/-- n: the maker's table; js: where the captured names stand; m: the lambda's body -/
noncomputable def gSL (n : Nat) (rev : Bool) (f : List (Option D) → Fn) (js : List Nat) (r : R) : M R := fun e S => (lstOf r e S).bind fun ds => if S[n]? = some (.tab n) ∧ KeysOk (f (js.map (capt e))) S ds then some (.new (.lst (ds.mergeSort (dataLe rev (kyG (f (js.map (capt e))) S)))), e, S) else none
theorem cap_ws {K : PySem.W.Frag} {H : Hp} {ι : List Addr} {σ : SV} {e : En} {S : Sto} (R : Rel K H ι σ e S) : ∀ js : List Nat, RWs K H ι (js.map (slotAt σ)) (js.map (capt e))
  | [] => .nil
  | j :: js => .cons (fun x hx => by
    unfold capt at hx
    split at hx
    · rename_i y he
      cases hx
      obtain ⟨v, hv, r⟩ := R.sl j _ he
      exact ⟨v, slotAt_of hv, r⟩
    · cases hx) (cap_ws R js)
section
variable {X : Cx} {k n : Nat} {q : Str} {params : Arguments} {b : Expr} {scope : Scope} {fr : List Str} {f : List (Option D) → Fn} {js : List Nat}
/-- what the sort asks behind its arguments -/
def tSortL (X : Cx) (n : Nat) (rev : Bool) (params : Arguments) (b : Expr) (scope : Scope) (f : List (Option D) → Fn) (js : List Nat) (z : List V) : SV → List V → List V → Hp → VK → Prop := fun σ xs zs H Q =>
  ∃ fa c ι e S r v ds, zs = .ref fa :: z ∧ xs = [v] ∧ H fa = some (LmO fa (lmF (Wld.tq n) params scope (cloFrom X.env.cells scope.names []) c) b) ∧ H c = some (CodeO c (Wld.tq n)) ∧ Rel X.K H ι σ e S ∧ RR X.K H ι σ e v r ∧ lstOf r e S = some ds ∧ KeysOk (f (js.map (capt e))) S ds ∧
    ∀ v H' ι', Rel X.K H' ι' σ e S → Post H ι σ e H' ι' σ e → RR X.K H' ι' σ e v (.new (.lst (ds.mergeSort (dataLe rev (kyG (f (js.map (capt e))) S))))) → Fresh H v (.new (.lst (ds.mergeSort (dataLe rev (kyG (f (js.map (capt e))) S))))) → Q v H'
variable {ex : Expr} {m' : M (List R)} {p pos lpos kpos kpos2 bpos : Pos} {bj : Nat}
end
end G

set_option Elab.async false
set_option linter.all false
set_option maxRecDepth 1000000
set_option maxHeartbeats 4000000
/-! GLD: defs that make lambdas; a law's row where tables of code objects are tracked. -/
namespace G
variable [Wld]
open PySem PySem.Spec PyProof.Rows L2 LamX
section
variable {P : Program} {w : World} {K : PySem.W.Frag} {mg : Str → Option Value} {base : Heap}
/-- a def of the text whose code object stands at c -/
structure DFC (K : PySem.W.Frag) (mg : Str → Option Value) (x qual : Str) (st : Stmt) (ps : List Str) (c : Addr) : Prop where
  ex : ∃ (f : Addr) (fd : FuncData), Fun K x qual st f fd ∧ mg x = some (.ref f) ∧ Binds K fd ps [] ∧ fd.code = .ref c
theorem DFC.mk' {h : Heap} (X : K.In h) (G : h.Ns mainGlobals mg) {x qual : Str} {st : Stmt} {f c : Addr} {fd : FuncData} {ps : List Str} (F : Fun K x qual st f fd) (a : PySem.W.nsIn K mainGlobals x = some (some (.ref f))) (b : Fun K x qual st f fd → Binds K fd ps []) (hc : fd.code = .ref c) : DFC K mg x qual st ps c :=
  ⟨⟨f, fd, F, PySem.W.mg_of X G a, b F, hc⟩⟩
/-- the makers' code objects and their tables -/
def TBs (base : Heap) (mg : Str → Option Value) (cs ts : List Addr) : Prop := ∀ (i : Nat) (c P : Addr), cs[i]? = some c → ts[i]? = some P → TabB base mg c P
/-- the law's promise, from its mirror, tables at ts -/
theorem spG_lawT {f : Fn} {H : Hp} {a : Addr} {ns : List Int} {ts : List Addr} (hT : ∀ P ∈ ts, H P = some (.tbl #[])) (nd : ts.Nodup) (hw : ∀ (i : Nat) (P : Addr), ts[i]? = some P → P = Wld.tb i) (hl : LF K H a (ns.map V.int)) {S' : Sto}
    (h : f [.d (.lst (ns.map D.int))] ((List.range ts.length).map O.tab) = some (.d (.bl true), S')) : spG K 1 f [.ref a] H (fun v _ => v = .bl true) fun _ _ _ => False := by
  have hr : ∀ (xs : List Int), RDs K H ts (xs.map V.int) (xs.map D.int) := fun xs => by
    induction xs with
    | nil => exact .nil
    | cons x xs ih => exact .cons (.int x) ih
  refine ⟨rfl, ts, _, _, _, _, ⟨by simp, fun n o b h1 h2 => ?_, nd⟩, .cons (s := .d (.lst (ns.map D.int))) (.lst hl (hr ns)) (fun _ _ z => z.elim) (fun z => z) .nil, h, fun v H' ι' R' P' r => ?_⟩
  · rw [List.getElem?_map] at h1
    obtain ⟨m, e1, rfl⟩ := Option.map_eq_some_iff.mp h1
    obtain ⟨e2, e3⟩ := List.getElem?_eq_some_iff.mp e1
    rw [List.getElem_range] at e3
    subst e3
    exact ⟨hw _ _ h2, TabS.nil (hT b (List.mem_of_getElem? h2))⟩
  · cases r
    rfl
end
section
variable {P : Program} {w : World} {K : PySem.W.Frag}
theorem law_coreGT {mg mb : Str → Option Value} {k : Nat} {fa a : Addr} {fd : FuncData} {x : Str} {sp : Sp} {s : Shared} {vs : List Value} {ns : List Int} {H : Hp} {cs ts : List Addr}
    (KX : K.In s.heap) (hns : s.heap.Ns mainGlobals mg) (hb : s.heap.Ns builtinsNs mb) (hbb : ∀ x : Str, x ≠ "__name__" → mb x = bootBuiltins x) (hlim : s.heap.NoLimit) (hgen : s.gens = #[])
    (tt : ∀ P ∈ ts, s.heap.get? P = some { cls := .none, data := .fields #[] }) (tn : ∀ P ∈ ts, K.lookup P = none) (cd : ∀ (i : Nat) (c P : Addr), cs[i]? = some c → ts[i]? = some P → PySem.W.CodeHd s.heap c P) (tc : ∀ P ∈ ts, ∃ c, PySem.W.CodeHd s.heap c P)
    (bm : ∃ (m : Addr) (o : PySem.Obj), mg "__builtins__" = some (.ref m) ∧ m ≠ builtinsNs ∧ s.heap.get? m = some o ∧ o.cls = .type "module" ∧ o.dict = some builtinsNs ∧ o.data = .plain)
    (ha : s.heap.get? a = some { cls := .type "list", data := .seq vs.toArray }) (hr : Room k callerA)
    (F : ∀ base : Heap, K.In base → base.Ns mainGlobals mg → TBs base mg cs ts → FnG P w K mg base k fa fd [x] sp) (hbind : ∀ (s : Shared) (u : Value), BindsTo s fd ⟨[u], []⟩ [(x, u)])
    (hH : ∀ P ∈ ts, H P = some (.tbl #[])) (hO : ∀ b, H b = none ∨ b ∈ ts ∨ ∃ o xs, H b = some (.frz o (.lst xs))) (hsp : sp [.ref a] H (fun v _ => v = .bl true) fun _ _ _ => False) (hok : HOk P w H s.heap) (hA : ∀ b, H b ≠ none → b = a ∨ b ∈ ts) (hK : H a ≠ none → K.lookup a = none) :
    codeAny (model P w) callerA (.call (.ref fa) ⟨[.ref a], []⟩) (fun r s' => r = .ok (.ret (.bool true)) ∧ OldK s.heap s'.heap ∧ s'.os = s.os ∧ AllBare s'.gens) s := by
  have other : ∀ {b : Addr} {o : PySem.Obj}, s.heap.get? b = some o → H b ≠ none → o = { cls := .type "list", data := .seq vs.toArray } ∨ o = { cls := .none, data := .fields #[] } := fun {b o} e z => by
    rcases hA b z with rfl | h
    · rw [ha] at e; exact .inl (Option.some.inj e).symm
    · rw [tt b h] at e; exact .inr (Option.some.inj e).symm
  have un : ∀ {b : Addr} {o : PySem.Obj}, s.heap.get? b = some o → o.data ≠ .seq vs.toArray → o.data ≠ .fields #[] → H b = none := fun {b o} e h1 h2 => Classical.byContradiction fun z => by
    rcases other e z with rfl | rfl
    · exact h1 rfl
    · exact h2 rfl
  have nsK : ∀ {b : Addr} {m : Str → Option Value}, s.heap.Ns b m → (hidT s.heap H).Ns b m := fun {b m} ⟨o, es, ep, e, d, r⟩ => ⟨o, es, ep, hidT_get e (un e (by rw [d]; exact fun z => nomatch z) (by rw [d]; exact fun z => nomatch z)), d, r⟩
  have inK : K.In (hidT s.heap H) := fun b o e => hidT_get (KX b o e) (Classical.byContradiction fun z => by
    rcases hA b z with rfl | h
    · rw [hK z] at e; cases e
    · rw [tn b h] at e; cases e)
  have tb : TBs (hidT s.heap H) mg cs ts := fun i c P h1 h2 => by
    have hP := List.mem_of_getElem? h2
    have gP := tt P hP
    have nG : ∀ b, (∃ (o : PySem.Obj) (es : Array DictEntry) (ep : Nat), s.heap.get? b = some o ∧ o.data = .dict es ep) → b ≠ P := fun b ⟨o, es, ep, e, d⟩ z => by
      rw [z, gP] at e
      cases e
      cases d
    obtain ⟨og, eg, pg, g1, g2, _⟩ := hns
    obtain ⟨m, o, b1, b2, b3, b4, b5, b6⟩ := bm
    obtain ⟨oc, us, file, tf, flags, tg, inF, text, tt', e1, r1, r2, r3, rest⟩ := cd i c P h1 h2
    refine ⟨⟨oc, us, file, tf, flags, tg, inF, text, tt', hidT_get e1 (un e1 (by rw [r2]; exact fun z => nomatch z) (by rw [r2]; intro z; cases z; simp at r3)), r1, r2, r3, rest⟩, ⟨m, o, b1, b2, fun z => ?_, fun z => ?_, hidT_get b3 (un b3 (by rw [b6]; exact fun z => nomatch z) (by rw [b6]; exact fun z => nomatch z)), b4, b5, b6⟩, nG _ ⟨_, _, _, g1, g2⟩⟩
    · rw [z, g1] at b3
      cases b3
      rw [g2] at b6
      cases b6
    · rw [z, gP] at b3
      cases b3
      cases b6
  have e0 : Env0 P w K mg (hidT s.heap H) callerA [] s H :=
    ⟨rfl, ⟨inK, nsK hns, ⟨mb, nsK hb, hbb⟩, let ⟨mc, h1, h2⟩ := hlim; ⟨mc, nsK h1, h2⟩⟩, fun b o e => of_hidT e, Nat.le_of_eq (hidT_size _ _), trivial, fun b hb => (nomatch hb), hok, .of_eq hgen⟩
  refine codeAny_mono ((F _ inK (nsK hns) tb).run callerA [] s H ⟨[.ref a], []⟩ [.ref a] [.ref a] _ _ hr rfl e0 (hbind s (.ref a)) (.cons rfl .nil) hsp) fun r s' h => ?_
  match r, h with
  | .error e, h => exact (show False from h).elim
  | .ok .next, h => exact h.elim
  | .ok .brk, h => exact h.elim
  | .ok .cont, h => exact h.elim
  | .ok (.ret u), ⟨v, H', os, bare, un', hok', r', q⟩ =>
    obtain rfl : v = .bl true := q
    obtain rfl : u = Value.bool true := r'
    have grown : ∀ P ∈ ts, ∃ more : Array Value, s'.heap.get? P = some { cls := .none, data := .fields more } := fun P hP => by
      obtain ⟨more, z⟩ := un'.tbls P #[] (hH P hP)
      exact ⟨_, hok' P _ z⟩
    have old : ∀ b o, b ∉ ts → s.heap.get? b = some o → s'.heap.get? b = some o := fun b o nb e => by
      cases q : H b with
      | none => exact un'.keep b o e q (fun z => nomatch z) (fun z => nomatch z)
      | some u =>
        rcases hO b with z | z | ⟨ob, xs, z⟩
        · rw [q] at z; cases z
        · exact absurd z nb
        · obtain ⟨e1, _⟩ := hok b _ z
          obtain ⟨e2, _⟩ := hok' b _ (un'.frzs b ob _ z)
          rw [e] at e1; cases e1
          exact e2
    refine ⟨rfl, ⟨fun b o e => ?_, fun b o e => ?_⟩, os, bare⟩
    · by_cases hbt : b ∈ ts
      · obtain ⟨more, hm⟩ := grown b hbt
        obtain ⟨c, hc⟩ := tc b hbt
        rw [tt b hbt] at e
        obtain rfl := (Option.some.inj e).symm
        exact .inr (.inl ⟨(hc.tab (tt b hbt)).isCodeTable, rfl, #[], more, rfl, by rw [Array.empty_append]; exact hm⟩)
      · exact .inl (old b o hbt e)
    · by_cases hbt : b ∈ ts
      · obtain ⟨more, hm⟩ := grown b hbt
        exact ⟨_, hm⟩
      · exact ⟨o, old b o hbt e⟩
end
theorem law_callGT {P : Program} {w : World} {K : PySem.W.Frag} {mg mb : Str → Option Value} {k : Nat} {fa a : Addr} {fd : FuncData} {x : Str} {s : Shared} {vs : List Value} {ns : List Int} {cs ts : List Addr} {f : Fn}
    (KX : K.In s.heap) (hns : s.heap.Ns mainGlobals mg) (hb : s.heap.Ns builtinsNs mb) (hbb : ∀ x : Str, x ≠ "__name__" → mb x = bootBuiltins x) (hlim : s.heap.NoLimit) (hgen : s.gens = #[])
    (tt : ∀ P ∈ ts, s.heap.get? P = some { cls := .none, data := .fields #[] }) (tn : ∀ P ∈ ts, K.lookup P = none) (hl' : cs.length = ts.length) (nd : ts.Nodup) (cd : ∀ (i : Nat) (c P : Addr), cs[i]? = some c → ts[i]? = some P → PySem.W.CodeHd s.heap c P) (hw : ∀ (i : Nat) (P : Addr), ts[i]? = some P → P = Wld.tb i)
    (bm : ∃ (m : Addr) (o : PySem.Obj), mg "__builtins__" = some (.ref m) ∧ m ≠ builtinsNs ∧ s.heap.get? m = some o ∧ o.cls = .type "module" ∧ o.dict = some builtinsNs ∧ o.data = .plain)
    (ha : s.heap.get? a = some { cls := .type "list", data := .seq vs.toArray }) (hi : IntsAre vs ns) (hl : ns.length ≤ sizeLine) (hr : Room k callerA)
    (F : ∀ base : Heap, K.In base → base.Ns mainGlobals mg → TBs base mg cs ts → FnG P w K mg base k fa fd [x] (spG K 1 f)) (hbind : ∀ (s : Shared) (u : Value), BindsTo s fd ⟨[u], []⟩ [(x, u)])
    {S' : Sto} (h : f [.d (.lst (ns.map D.int))] ((List.range ts.length).map O.tab) = some (.d (.bl true), S')) :
    codeAny (model P w) callerA (.call (.ref fa) ⟨[.ref a], []⟩) (fun r s' => r = .ok (.ret (.bool true)) ∧ OldK s.heap s'.heap ∧ s'.os = s.os ∧ AllBare s'.gens) s := by
  have rv := vals_ints hi
  have aT : a ∉ ts := fun z => by
    have q := tt a z
    rw [ha] at q
    cases q
  have tc : ∀ P ∈ ts, ∃ c, PySem.W.CodeHd s.heap c P := fun P hP => by
    obtain ⟨i, hi⟩ := List.getElem?_of_mem hP
    have hlt : i < cs.length := by rw [hl']; exact (List.getElem?_eq_some_iff.mp hi).1
    exact ⟨_, cd i _ P (List.getElem?_eq_getElem hlt) hi⟩
  have go := fun (H : Hp) (hH : ∀ P ∈ ts, H P = some (.tbl #[])) (hS : LF K H a (ns.map V.int)) => law_coreGT (ns := ns) (H := H) KX hns hb hbb hlim hgen tt tn cd tc bm ha hr F hbind hH
  let T : Hp := fun b => if b ∈ ts then some (.tbl #[]) else none
  have t1 : ∀ b, b ∈ ts → T b = some (.tbl #[]) := fun b z => if_pos z
  have t0 : ∀ b, b ∉ ts → T b = none := fun b z => if_neg z
  cases hk : K.lookup a with
  | some o =>
    obtain rfl : { cls := .type "list", data := .seq vs.toArray } = o := Option.some.inj (ha.symm.trans (KX a o hk))
    have hS : LF K T a (ns.map V.int) := .inr ⟨_, vs.toArray, _, hk, rfl, rfl, rfl, by rw [List.size_toArray, hi.length]; exact hl, by simpa using rv⟩
    refine go T t1 hS (fun b => ?_) (spG_lawT t1 nd hw hS h) (fun b u z => ?_) (fun b z => .inr (Classical.byContradiction fun q => z (t0 b q))) (fun z => absurd (t0 a aT) z)
    · by_cases q : b ∈ ts
      · exact .inr (.inl q)
      · exact .inl (t0 b q)
    · by_cases q : b ∈ ts
      · rw [t1 b q] at z; cases z
        exact tt b q
      · rw [t0 b q] at z; cases z
  | none =>
    let L : HO := .frz { cls := .type "list", data := .seq vs.toArray } (.lst (ns.map V.int))
    let U : Hp := upd T a L
    have u1 : ∀ b, b ∈ ts → U b = some (.tbl #[]) := fun b z => (upd_ne (fun (q : b = a) => aT (by rw [← q]; exact z))).trans (t1 b z)
    have hS : LF K U a (ns.map V.int) := .inl ⟨_, upd_same⟩
    refine go U u1 hS (fun b => ?_) (spG_lawT u1 nd hw hS h) (fun b u z => ?_) (fun b z => ?_) (fun _ => hk)
    · by_cases q : b = a
      · subst q; exact .inr (.inr ⟨_, _, upd_same⟩)
      · by_cases q2 : b ∈ ts
        · exact .inr (.inl q2)
        · exact .inl ((upd_ne q).trans (t0 b q2))
    · by_cases q : b = a
      · subst q
        obtain rfl : L = u := Option.some.inj (upd_same.symm.trans z)
        exact ⟨ha, by rw [List.length_map]; exact hl, vs, _, rv, ha⟩
      · have z' : T b = some u := (upd_ne q).symm.trans z
        by_cases q2 : b ∈ ts
        · rw [t1 b q2] at z'; cases z'
          exact tt b q2
        · rw [t0 b q2] at z'; cases z'
    · by_cases q : b = a
      · exact .inl q
      · exact .inr (Classical.byContradiction fun q2 => z ((upd_ne q).trans (t0 b q2)))
omit [Wld] in
/-- a law's row, tables at ts; tq, lm: the makers' lambdas' names, the lambdas -/
theorem walk_GT {l : PySem.W.OpenLaw} {n k : Nat} {q : Program} {loose : List Str} {XP : (Str → Option Value) → Heap → Prop} {YP : World → Heap → Prop} {d : DefRec} {K : Params → PySem.W.Frag} {x : Str} {ts : List Addr} (tq : Nat → Str) (lm : Nat → Lm)
    (hn : l.most = some n) (hn2 : n ≤ sizeLine) (hdf : d.params.defaults = []) (hr : Room k callerA) (hY : ∀ (w : World) (h : Heap), YP w h → (K w.params).In h) (hT : ∀ (w : World) (h : Heap), YP w h → ∀ P ∈ ts, h.get? P = some (PySem.W.tabObj #[])) (nd : ts.Nodup)
    (F : ∀ (w : World) (mg : Str → Option Value) (fa : Addr) (h : Heap) (i : Wld), w = i.w → (∀ (n : Nat) (P : Addr), ts[n]? = some P → P = i.tb n) → i.tq = tq → i.lm = lm → (K w.params).In h → h.Ns mainGlobals mg → mg d.name = some (.ref fa) →
      ∃ (cs : List Addr) (f : Fn) (fd : FuncData), (∀ P ∈ ts, (K w.params).lookup P = none) ∧ cs.length = ts.length ∧ (∀ (i : Nat) (c P : Addr), cs[i]? = some c → ts[i]? = some P → PySem.W.codeHdIn (K w.params) c P = true) ∧
        (∀ (s : Shared) (u : Value), BindsTo s fd ⟨[u], []⟩ [(x, u)]) ∧ (∀ base : Heap, (K w.params).In base → base.Ns mainGlobals mg → TBs base mg cs ts → FnG l.prog w (K w.params) mg base k fa fd [x] (spG (K w.params) 1 f)) ∧
        ∀ ns : List Int, ns.length ≤ n → (∀ z ∈ ns, Builtin.Int.intBits z ≤ 1048576) → ∃ S', f [.d (.lst (ns.map D.int))] ((List.range ts.length).map O.tab) = some (.d (.bl true), S')) :
    PySem.W.WalkO q loose XP YP l.row.toRowW d [] (fun f vs => PySem.call f vs) :=
  Att.attach_callB hn hdf fun w s₀ s₁ mg mb fa o pm cd doc a vs ns G Y ho hd hcd hmg hobj hints hlen hbits hg =>
    let i : Wld := ⟨w, fun n => ts.getD n 0, tq, lm, fun _ => 0⟩
    have hw : ∀ (n : Nat) (P : Addr), ts[n]? = some P → P = i.tb n := fun n P h => by show P = ts.getD n 0; rw [List.getD_eq_getElem?_getD, h]; rfl
    let ⟨cs, _, fd, hn, hl, hc, hb, hF, hf⟩ := F w mg fa _ i rfl hw rfl rfl (hY w _ Y) G.T.g hmg
    let ⟨_, h⟩ := hf ns hlen hbits
    law_callGT (hY w _ Y) G.T.g G.T.b G.T.builtins G.T.nolimit hg (hT w _ Y) hn hl nd (fun i c P h1 h2 => PySem.W.codeHd_of_K (hY w _ Y) (hc i c P h1 h2)) hw G.T.bmain hobj hints (Nat.le_trans hlen hn2) hr hF hb h
end G

set_option Elab.async false
set_option linter.all false
set_option maxRecDepth 1000000
set_option maxHeartbeats 4000000
/-! GLE: captured cells, tracked for a while. -/
namespace G
variable [Wld]
open PySem PySem.Spec PyProof.Rows L2 LamX NdefX
/-- H, but what f tells at the places of A -/
def pat (A : Addr → Prop) [DecidablePred A] (f H : Hp) : Hp := fun b => if A b then f b else H b
section
variable {A : Addr → Prop} [DecidablePred A] {f H H' H2 : Hp} {h h' : Heap} {b : Addr} {fs : List Addr} {P : Program} {w : World}
omit [Wld] in
theorem pat_in (z : A b) : pat A f H b = f b := if_pos z
omit [Wld] in
theorem pat_out (z : ¬ A b) : pat A f H b = H b := if_neg z
/-- the tracked objects at A are such as stand for themselves -/
def Exs (A : Addr → Prop) (H : Hp) (h : Heap) : Prop := ∀ a, A a → ∃ o v, H a = some (exa a o) ∧ h.get? a = some o ∧ o.data = .cell v
/-- .. taken away -/
theorem hok_drop (k : HOk P w H h) (e : ∀ a, A a → ∃ o, H a = some (exa a o)) : HOk P w (pat A (fun _ => none) H) h := fun b u hb => by
  by_cases z : A b
  · rw [pat_in z] at hb; cases hb
  · rw [pat_out z] at hb
    refine (k b u hb).stay (fun c v _ q => q) (fun c q => ?_) fun c xs q => ?_
    · rw [pat_out fun y => by obtain ⟨o, e1⟩ := e c y; rw [e1] at q; cases q]; exact q
    · rw [pat_out fun y => by obtain ⟨o, e1⟩ := e c y; rw [e1] at q; cases q]; exact q
/-- .. and brought -/
theorem hok_add (k : HOk P w H h) (n : ∀ a, A a → H a = none) (e : ∀ a, A a → ∃ o, f a = some (exa a o) ∧ h.get? a = some o) : HOk P w (pat A f H) h := fun b u hb => by
  by_cases z : A b
  · rw [pat_in z] at hb
    obtain ⟨o, e1, e2⟩ := e b z
    rw [e1] at hb; cases hb
    exact exa_ok e2
  · rw [pat_out z] at hb
    refine (k b u hb).stay (fun c v _ q => q) (fun c q => ?_) fun c xs q => ?_
    · rw [pat_out fun y => by rw [n c y] at q; cases q]; exact q
    · rw [pat_out fun y => by rw [n c y] at q; cases q]; exact q
theorem un_back (u : Un fs [] (pat A (fun _ => none) H) H' h h') (e : ∀ a, A a → ∃ o, H a = some (exa a o) ∧ h.get? a = some o) (n : ∀ a, A a → a ∉ fs) :
    Un fs [] H (pat A H H') h h' ∧ (∀ a, A a → H' a = none) ∧ ∀ a o, A a → h.get? a = some o → h'.get? a = some o := by
  have out : ∀ b, H b = none → ¬ A b := fun b hb z => by obtain ⟨o, e1, _⟩ := e b z; rw [e1] at hb; cases hb
  have ne : ∀ b w, H b = some w → (∀ p, w ≠ .ext p) → ¬ A b := fun b w hb hw z => by
    obtain ⟨o, e1, _⟩ := e b z
    rw [e1] at hb
    exact hw _ (Option.some.inj hb).symm
  refine ⟨⟨fun b o q1 q2 q3 q4 => u.keep b o q1 ((pat_out (out b q2)).trans q2) q3 q4, fun b o q1 q2 q3 q4 => u.slot b o q1 ((pat_out (out b q2)).trans q2) q3 q4, fun b o q1 q2 q3 => (pat_out (out b q2)).trans (u.free b o q1 ((pat_out (out b q2)).trans q2) q3), u.there, fun b xs q => ?_, fun b o v q => ?_, fun b ps q => ?_⟩, fun a z => ?_, fun a o z q => ?_⟩
  · have z := ne b _ q fun _ y => nomatch y
    exact (pat_out z).trans (u.tups b xs ((pat_out z).trans q))
  · have z := ne b _ q fun _ y => nomatch y
    exact (pat_out z).trans (u.frzs b o v ((pat_out z).trans q))
  · have z := ne b _ q fun _ y => nomatch y
    obtain ⟨m, k⟩ := u.tbls b ps ((pat_out z).trans q)
    exact ⟨m, (pat_out z).trans k⟩
  · obtain ⟨o, e1, e2⟩ := e a z
    exact u.free a o e2 (pat_in z) (by simp)
  · exact u.keep a o q (pat_in z) (n a z) (by simp)
theorem un_drop (u : Un fs [] (pat A f H) H' h h') (n : ∀ a, A a → H a = none) (k : ∀ a, A a → H' a = f a) (e : ∀ a, A a → ∃ o, f a = some (exa a o) ∧ h.get? a = some o) (hok : HOk P w H' h') :
    Un fs [] H (pat A (fun _ => none) H') h h' := by
  have ne : ∀ b w, H b = some w → ¬ A b := fun b w hb z => by rw [n b z] at hb; cases hb
  have same : ∀ b o, A b → h.get? b = some o → h'.get? b = some o := fun b o z q => by
    obtain ⟨o', e1, e2⟩ := e b z
    rw [e2] at q; cases q
    exact (hok b _ ((k b z).trans e1)).1
  refine ⟨fun b o q1 q2 q3 q4 => ?_, fun b o q1 q2 q3 q4 => ?_, fun b o q1 q2 q3 => ?_, u.there, fun b xs q => ?_, fun b o v q => ?_, fun b ps q => ?_⟩
  · by_cases z : A b
    · exact same b o z q1
    · exact u.keep b o q1 ((pat_out z).trans q2) q3 q4
  · by_cases z : A b
    · exact ⟨o.slots, same b o z q1⟩
    · exact u.slot b o q1 ((pat_out z).trans q2) q3 q4
  · by_cases z : A b
    · exact pat_in z
    · exact (pat_out z).trans (u.free b o q1 ((pat_out z).trans q2) q3)
  · have z := ne b _ q
    exact (pat_out z).trans (u.tups b xs ((pat_out z).trans q))
  · have z := ne b _ q
    exact (pat_out z).trans (u.frzs b o v ((pat_out z).trans q))
  · have z := ne b _ q
    obtain ⟨m, k⟩ := u.tbls b ps ((pat_out z).trans q)
    exact ⟨m, (pat_out z).trans k⟩
end
/-! ### data, where cells are no more tracked -/
section
variable {K : PySem.W.Frag} {H0 H H' : Hp} {ι0 ι : List Addr}
/-- what data ask of H' behind H -/
structure Wk (H H' : Hp) : Prop where
  tup : ∀ a xs, H a = some (.tup xs) → H' a = some (.tup xs)
  frz : ∀ a o u, H a = some (.frz o u) → H' a = some (.frz o u)
theorem wk_t (s : Wk H H') {a : Addr} {xs : List V} (h : SqT K H a xs) : SqT K H' a xs := by
  rcases h with (h | ⟨o, h⟩) | h
  · exact .inl (.inl (s.tup _ _ h))
  · exact .inl (.inr ⟨o, s.frz _ _ _ h⟩)
  · exact .inr h
theorem wk_l (s : Wk H H') {a : Addr} {xs : List V} (h : LF K H a xs) : LF K H' a xs := by
  rcases h with ⟨o, h⟩ | h
  · exact .inl ⟨o, s.frz _ _ _ h⟩
  · exact .inr h
mutual
/-- exceptions in the data were there before -/
theorem RD.wk (s : Wk H H') (x : ∀ a C, ExcS H0 a C → ExcS H' a C) : ∀ (d : D) (v0 v : V), RD K H0 ι0 v0 d → RD K H ι v d → RD K H' ι v d
  | .non, _, _, _, h => by cases h; exact .non
  | .bl b, _, _, _, h => by cases h; exact .bl b
  | .int i, _, _, _, h => by cases h; exact .int i
  | .str y, _, _, _, h => by cases h; exact .str y
  | .tup ds, _, _, h0, h => by cases h0 with | tup _ g => cases h with | tup h1 h2 => exact .tup (wk_t s h1) (RDs.wk s x ds _ _ g h2)
  | .lst ds, _, _, h0, h => by cases h0 with | lst _ g => cases h with | lst h1 h2 => exact .lst (wk_l s h1) (RDs.wk s x ds _ _ g h2)
  | .dic ks ds, _, _, h0, h => by cases h0 with | dic _ _ g => cases h with | dic h1 h2 h3 => exact .dic (s.frz _ _ _ h1) h2 (RDs.wk s x ds _ _ g h3)
  | .ref n, _, _, _, h => by cases h with | ref h1 => exact .ref h1
  | .fn a, _, _, _, h => by cases h; exact .fn a
  | .exc C ns ds, _, _, h0, h => by cases h0 with | exc _ _ _ _ _ g => cases h with | exc h1 h2 h3 h4 h5 h6 => exact .exc (s.frz _ _ _ h1) h2 h3 (h4.mono fun _ _ _ => s.frz _ _ _) h5 (RDs.wk s x ds _ _ g h6)
theorem RDs.wk (s : Wk H H') (x : ∀ a C, ExcS H0 a C → ExcS H' a C) : ∀ (ds : List D) (vs0 vs : List V), RDs K H0 ι0 vs0 ds → RDs K H ι vs ds → RDs K H' ι vs ds
  | [], _, _, _, h => by cases h; exact .nil
  | d :: ds, _, _, h0, h => by cases h0 with | cons g1 g2 => cases h with | cons h1 h2 => exact .cons (RD.wk s x d _ _ g1 h1) (RDs.wk s x ds _ _ g2 h2)
end
mutual
theorem RD.wkD (s : Wk H H') : ∀ (d : D) (v : V), datB d = true → RD K H ι v d → RD K H' ι v d
  | .non, _, _, h => by cases h; exact .non
  | .bl b, _, _, h => by cases h; exact .bl b
  | .int i, _, _, h => by cases h; exact .int i
  | .str y, _, _, h => by cases h; exact .str y
  | .tup ds, _, e, h => by cases h with | tup h1 h2 => exact .tup (wk_t s h1) (RDs.wkD s ds _ (by simpa only [datB] using e) h2)
  | .lst ds, _, e, h => by cases h with | lst h1 h2 => exact .lst (wk_l s h1) (RDs.wkD s ds _ (by simpa only [datB] using e) h2)
  | .dic ks ds, _, e, h => by cases h with | dic h1 h2 h3 => exact .dic (s.frz _ _ _ h1) h2 (RDs.wkD s ds _ (by simpa only [datB] using e) h3)
  | .ref n, _, e, _ => by cases e
  | .fn a, _, e, _ => by cases e
  | .exc _ _ _, _, e, _ => by cases e
theorem RDs.wkD (s : Wk H H') : ∀ (ds : List D) (vs : List V), datsB ds = true → RDs K H ι vs ds → RDs K H' ι vs ds
  | [], _, _, h => by cases h; exact .nil
  | d :: ds, _, e, h => by
    have e' : datB d = true ∧ datsB ds = true := by simpa only [datsB, Bool.and_eq_true] using e
    cases h with | cons h1 h2 => exact .cons (RD.wkD s d _ e'.1 h1) (RDs.wkD s ds _ e'.2 h2)
end
theorem paired_two {α β γ : Type} {R : α → γ → Prop} {T : β → γ → Prop} {U : β → γ → Prop} (go : ∀ a b c, R a c → T b c → U b c) : ∀ {l : List α} {m : List β} {n : List γ}, Paired R l n → Paired T m n → Paired U m n
  | _, _, _, .nil, .nil => .nil
  | _, _, _, .cons r rs, .cons t ts => .cons (go _ _ _ r t) (paired_two go rs ts)
theorem RO.wk (s : Wk H H') (x : ∀ a C, ExcS H0 a C → ExcS H' a C) (cd : ∀ a q, H a = some (CodeO a q) → H' a = some (CodeO a q)) {a : Addr} {o : O} (k : ∀ u, H a = some u → H' a = some u) (h0 : RO K H0 ι0 a o) (h : RO K H ι a o) : RO K H' ι a o := by
  cases o with
  | tab n => obtain ⟨e, ps, h1, h2, h3⟩ := h; exact ⟨e, ps, k _ h1, h2, fun pos cv hc => let ⟨c, e1, e2⟩ := h3 pos cv hc; ⟨c, e1, cd _ _ e2⟩⟩
  | ins c ns ds => obtain ⟨_, _, _, _, g⟩ := h0; obtain ⟨dx, xs, h1, h2, h3⟩ := h; exact ⟨dx, xs, k _ h1, h2, RDs.wk s x _ _ _ g h3⟩
  | lst ds => obtain ⟨_, _, g⟩ := h0; obtain ⟨xs, h1, h2⟩ := h; exact ⟨xs, k _ h1, RDs.wk s x _ _ _ g h2⟩
  | dct kvs => obtain ⟨_, _, g⟩ := h0; obtain ⟨ws, h1, h2⟩ := h; exact ⟨ws, k _ h1, paired_two (fun p q r z1 z2 => ⟨z2.1, RD.wk s x _ _ _ z1.2 z2.2⟩) g h2⟩
  | kx kvs => obtain ⟨_, _, _, g⟩ := h0; obtain ⟨o, ws, h1, h2⟩ := h; exact ⟨o, ws, k _ h1, paired_two (fun p q r z1 z2 => ⟨z2.1, RD.wk s x _ _ _ z1.2 z2.2⟩) g h2⟩
  | kd kvs =>
    obtain ⟨_, _, _, _, g⟩ := h0
    obtain ⟨o, es, ep, xs, h⟩ := h
    exact ⟨o, es, ep, xs, k _ h.at_, h.ex, h.dt, h.en, h.nd, h.sz, h.sm, h.dp, h.md, paired_two (fun p q r z1 z2 => ⟨z2.1, (by
      rcases z2.2.1 with ⟨t, y, r2, d2⟩ | t
      · rcases z1.2.1 with ⟨_, y1, _, d1⟩ | ⟨t1, _⟩
        · exact .inl ⟨t, y, r2, RD.wk s x _ _ _ d1 d2⟩
        · rw [Option.some.inj (z1.1.symm.trans z2.1), t] at t1; cases t1
      · exact .inr t), z2.2.2.1, RD.wk s x _ _ _ z1.2.2.2 z2.2.2.2⟩) g.pr h.pr⟩
end
end G

set_option Elab.async false
set_option linter.all false
set_option maxRecDepth 1000000
set_option maxHeartbeats 4000000
/-! GLF: a lambda handed to a def; its call there. -/
namespace G
variable [Wld]
open PySem PySem.Spec PyProof.Rows L2 LamX NdefX
/-- the cells of a closure -/
def inCl (cl : List (Str × Addr)) (a : Addr) : Prop := ∃ y, cl.lookup y = some a
section
variable {P : Program} {w : World} {K : PySem.W.Frag} {mg : Str → Option Value} {base : Heap} {A0 : Around} {outer : List PySem.Env} {s : Shared} {H : Hp} {A : Addr → Prop} [DecidablePred A]
theorem Env0.drop (e : Env0 P w K mg base A0 outer s H) (x : ∀ a, A a → ∃ o, H a = some (exa a o)) : Env0 P w K mg base A0 outer s (pat A (fun _ => none) H) := by
  have k : ∀ b, H b = none → pat A (fun _ => none) H b = none := fun b h => by
    by_cases z : A b
    · exact pat_in z
    · exact (pat_out z).trans h
  exact ⟨e.frames, e.mod, fun b o h => ⟨(e.bs b o h).1, k b (e.bs b o h).2⟩, e.bsz, e.funs, fun b h => k b (e.frf b h), hok_drop e.hok x, e.bare⟩
theorem Env0.add {f : Hp} (e : Env0 P w K mg base A0 outer s H) (n : ∀ a, A a → H a = none) (x : ∀ a, A a → ∃ o, f a = some (exa a o) ∧ s.heap.get? a = some o) (nb : ∀ a, A a → base.get? a = none) (nf : ∀ a, A a → a ∉ frs outer) : Env0 P w K mg base A0 outer s (pat A f H) :=
  ⟨e.frames, e.mod, fun b o h => ⟨(e.bs b o h).1, (pat_out fun z => by rw [nb b z] at h; cases h).trans (e.bs b o h).2⟩, e.bsz, e.funs, fun b h => (pat_out fun z => nf b z h).trans (e.frf b h), hok_add e.hok n x, e.bare⟩
end
section
variable {K : PySem.W.Frag} {H H' : Hp} {ι : List Addr} {S : Sto}
/-- what is tracked besides stays -/
theorem stay_ext (k : ∀ b u, H b = some u → H' b = some u) : Stay H H' := ⟨fun a xs e => k _ _ e, fun a o u e => k _ _ e, fun a C e => by
  rcases e with e | ⟨dd, u, e, e2, e3⟩
  · exact .inl (k _ _ e)
  · exact .inr ⟨dd, u, k _ _ e, k _ _ e2, e3⟩, fun a q e => k _ _ e, fun a u e _ => k _ _ e⟩
theorem RelS.ext (R : RelS K H ι S) (k : ∀ b u, H b = some u → H' b = some u) : RelS K H' ι S := ⟨R.ilen, fun n o a h1 h2 => (R.st n o a h1 h2).mono (stay_ext k) ⟨[], by simp⟩ fun u => k _ u, R.nd⟩
/-- no cell is one of the store's -/
theorem RelS.away (R : RelS K H ι S) {a : Addr} {u : HO} (h : H a = some u) (l : LmU a u) : a ∉ ι := (R.rel.away h l).1
theorem exa_cell {a : Addr} {o : PySem.Obj} {v : Option Value} (h : o.data = .cell v) : LmU a (exa a o) := .inr ⟨o, v, rfl, h⟩
/-- the store, cells no more tracked -/
theorem RelS.drop {H0 : Hp} {ι0 : List Addr} {A : Addr → Prop} [DecidablePred A] (R0 : RelS K H0 ι S) (R : RelS K H ι S) (x : ∀ a, A a → ∃ o v, H a = some (exa a o) ∧ o.data = .cell v) (ex : ∀ a C, ExcS H0 a C → ExcS (pat A (fun _ => none) H) a C) : RelS K (pat A (fun _ => none) H) ι S := by
  have ne : ∀ b u, H b = some u → (∀ o v, o.data = .cell v → u ≠ exa b o) → pat A (fun _ => none) H b = some u := fun b u h hu => (pat_out fun z => by
    obtain ⟨o, v, e1, e2⟩ := x b z
    rw [e1] at h
    exact hu o v e2 (Option.some.inj h).symm).trans h
  refine ⟨R.ilen, fun n o a h1 h2 => RO.wk (H0 := H0) (ι0 := ι) ⟨fun b xs h => ne b _ h fun _ _ _ z => (nomatch z), fun b p u h => ne b _ h fun _ _ _ z => (nomatch z)⟩ ex (fun b q h => ne b _ h fun o' v e z => ?_) (fun u h => ne a u h fun o' v e z => ?_) (R0.st n o a h1 h2) (R.st n o a h1 h2), R.nd⟩
  · unfold CodeO at z
    have hg := at_rep (a := b) (o := o') (fun q => by rw [e] at q; cases q)
    obtain ⟨oc, vs, t, e1, e2, _⟩ := (congrFun (HO.ext.inj z) { objs := Array.replicate (b + 1) o' }).mpr hg
    rw [hg] at e1
    cases e1
    rw [e] at e2; cases e2
  · subst z
    exact (R.st n o a h1 h2).nlm h (exa_cell e)
end
/-! ### the call of what a slot holds -/
theorem cell_ns {a : Addr} {o : PySem.Obj} {v : Option Value} (h : o.data = .cell v) : (∀ C, exa a o ≠ ExO (.ref C) a) ∧ (∀ C d, exa a o ≠ exo a C d) ∧ (∀ q, exa a o ≠ CodeO a q) ∧ ∀ F b, exa a o ≠ LmO a F b := by
  have hg := at_rep (a := a) (o := o) (fun q => by rw [h] at q; cases q)
  refine ⟨fun C z => ?_, fun C d z => ?_, fun q z => ?_, fun F b z => ?_⟩
  · obtain ⟨oe, vs, h1, _, h2, _⟩ := (congrFun (HO.ext.inj z) { objs := Array.replicate (a + 1) o }).mp hg
    rw [hg] at h1
    cases h1
    rw [h] at h2; cases h2
  · obtain ⟨t1, h1⟩ := (congrFun (HO.ext.inj z) { objs := Array.replicate (a + 1) o }).mp hg
    rw [hg] at h1
    cases h1
    cases h
  · unfold CodeO at z
    obtain ⟨oe, vs, t, h1, h2, _⟩ := (congrFun (HO.ext.inj z) { objs := Array.replicate (a + 1) o }).mp hg
    rw [hg] at h1
    cases h1
    rw [h] at h2; cases h2
  · unfold LmO at z
    obtain ⟨od, sl, pm, tv, h1⟩ := (congrFun (HO.ext.inj z) { objs := Array.replicate (a + 1) o }).mp hg
    rw [hg] at h1
    rw [Option.some.inj h1] at h
    cases h
theorem choose_list {α : Type} {P : Nat → α → Prop} : ∀ n : Nat, (∀ j, j < n → ∃ v, P j v) → ∃ ws : List α, ws.length = n ∧ ∀ j v, ws[j]? = some v → P j v
  | 0, _ => ⟨[], rfl, fun j v h => by simp at h⟩
  | n + 1, h => by
    obtain ⟨ws, h1, h2⟩ := choose_list n fun j hj => h j (Nat.lt_succ_of_lt hj)
    obtain ⟨v, hv⟩ := h n (Nat.lt_succ_self n)
    refine ⟨ws ++ [v], by simp [h1], fun j x hx => ?_⟩
    by_cases hj : j < ws.length
    · rw [List.getElem?_append_left hj] at hx; exact h2 j x hx
    · rw [List.getElem?_append_right (by omega)] at hx
      obtain ⟨hlt, _⟩ := List.getElem?_eq_some_iff.mp hx
      simp at hlt
      obtain rfl : j = n := by omega
      rw [show j - ws.length = 0 by omega] at hx
      simp at hx; subst hx
      exact hv
theorem paired_of {α β : Type} {R : α → β → Prop} : ∀ {l : List α} {m : List β}, l.length = m.length → (∀ (i : Nat) (a : α) (b : β), l[i]? = some a → m[i]? = some b → R a b) → Paired R l m
  | [], [], _, _ => .nil
  | [], _ :: _, h, _ => by simp at h
  | _ :: _, [], h, _ => by simp at h
  | a :: l, b :: m, h, g => .cons (g 0 a b rfl rfl) (paired_of (by simpa using h) fun i x y h1 h2 => g (i + 1) x y (by simpa using h1) (by simpa using h2))
section
variable {X : Cx} {pins : List (Addr × PySem.Obj)} {σ : SV} {H : Hp} {s : Shared} {ι : List Addr} {S S' : Sto} {k np id : Nat} {f : List (Option D) → Fn} {cs : List D} {v : V} {vs : List V} {us : List Value} {sls : List Sl} {r : Rt}
/-- the lambda id of the text and what it computes -/
abbrev LmOk (P : Program) (w : World) (K : PySem.W.Frag) (mg : Str → Option Value) (base : Heap) (k id np : Nat) (f : List (Option D) → Fn) : Prop := LOk P w K mg base k (Wld.lm id).q (Wld.lm id).ps (Wld.lm id).b (Wld.lm id).sc np (Wld.lm id).fr f
theorem RSl.ext {H' : Hp} (k : ∀ b u, H b = some u → H' b = some u) {s : Sl} (h : RSl X.K H ι v s) : RSl X.K H' ι v s := h.mono (stay_ext k) ⟨[], by simp⟩ fun a u _ _ e => k _ _ e
open Classical in
theorem lm_call {fa : Addr} {Z : Addr → Prop} (I : Inv X pins σ H s) (R : RelS X.K H ι S) (L : LmOk X.prog X.w X.K X.mg X.base k id np f) (hr : Room k X.A) (hg : X.A.guards = some []) (h : LmR X.K H ι (.ref fa) id cs Z) (rv : Vals vs us) (hl : vs.length = np)
    (hs : ∃ ds, sls = ds.map Sl.d ∧ RDs X.K H ι vs ds) (hm : f (cs.map some) sls S = some (r, S')) :
    wpAny (model X.prog X.w) X.A (call (.ref fa) us) (fun u t' => ∃ v H2 ι2, Inv X pins σ H2 t' ∧ RelV v u ∧ RelS X.K H2 ι2 S' ∧ PostC H ι H2 ι2 ∧ RRt X.K H H2 ι2 v r) X.xe s := by
  obtain ⟨fa', c, cl, e0, h1, h2, _, h4, h5, h6, h7⟩ := h
  cases e0
  have xs : ∀ a, inCl cl a → ∃ o v, H a = some (exa a o) ∧ o.data = .cell v := fun a ⟨y, e⟩ => (h4 y a e).2
  have at_ : ∀ a o, H a = some (exa a o) → s.heap.get? a = some o := fun a o e => (I.hok a _ e).1
  have x0 : ∀ a, inCl cl a → ∃ o, H a = some (exa a o) := fun a z => let ⟨o, v, e, _⟩ := xs a z; ⟨o, e⟩
  have x1 : ∀ a, inCl cl a → ∃ o, H a = some (exa a o) ∧ s.heap.get? a = some o := fun a z => let ⟨o, v, e, _⟩ := xs a z; ⟨o, e, at_ a o e⟩
  have nl : ∀ b u, H b = some u → (∀ o v, o.data = .cell v → exa b o ≠ u) → pat (inCl cl) (fun _ => none) H b = some u := fun b u e hu => (pat_out fun z => by
    obtain ⟨o, v, e1, e2⟩ := xs b z
    rw [e1] at e
    exact hu o v e2 (Option.some.inj e)).trans e
  have f1 := nl _ _ h1 fun o v e => (cell_ns e).2.2.2 _ _
  have c1 := nl _ _ h2 fun o v e => (cell_ns e).2.2.1 _
  have wk : Wk H (pat (inCl cl) (fun _ => none) H) := ⟨fun b ys e => nl _ _ e fun _ _ _ z => (nomatch z), fun b o u e => nl _ _ e fun _ _ _ z => (nomatch z)⟩
  have ex : ∀ a C, ExcS H a C → ExcS (pat (inCl cl) (fun _ => none) H) a C := fun a C e => by
    rcases e with e | ⟨dd, u, e, e2, e3⟩
    · exact .inl (nl _ _ e fun o v z => (cell_ns z).1 _)
    · exact .inr ⟨dd, u, nl _ _ e fun o v z => (cell_ns z).2.1 _ _, nl _ _ e2 fun o v z y => e3 (y ▸ exa_cell z), e3⟩
  -- the captured values
  obtain ⟨ws, lw, pw⟩ := choose_list (P := fun j v => ∃ y d a o u, (Wld.lm id).fr[j]? = some y ∧ cs[j]? = some d ∧ cl.lookup y = some a ∧ H a = some (exa a o) ∧ o.data = .cell (some u) ∧ RelV v u ∧ RD X.K H ι v d) cs.length fun j hj => by
    have e1 := List.getElem?_eq_getElem hj
    have hj2 : j < (Wld.lm id).fr.length := by omega
    have e2 := List.getElem?_eq_getElem hj2
    obtain ⟨a, o, u, v, q⟩ := h7 j _ _ e2 e1
    exact ⟨v, _, _, a, o, u, e2, e1, q⟩
  have C : CellsAt cl (Wld.lm id).fr (ws.map some) s.heap (pat (inCl cl) (fun _ => none) H) := by
    refine ⟨by rw [List.length_map]; omega, fun y a e => ⟨pat_in ⟨y, e⟩, ?_⟩, h5, fun i y hi => ?_⟩
    · obtain ⟨_, o, v, e1, e2⟩ := h4 y a e
      exact ⟨v, o, at_ a o e1, e2⟩
    · have hj : i < ws.length := by have := (List.getElem?_eq_some_iff.mp hi).1; omega
      obtain ⟨y', d, a, o, u, q1, q2, q3, q4, q5, q6, q7⟩ := pw i _ (List.getElem?_eq_getElem hj)
      rw [hi] at q1
      cases q1
      refine ⟨a, q3, fun v hv => ?_⟩
      rw [List.getElem?_map, List.getElem?_eq_getElem hj] at hv
      simp at hv
      subst hv
      exact ⟨u, q6, o, at_ a o q4, q5⟩
  have W : RWs X.K (pat (inCl cl) (fun _ => none) H) ι (ws.map some) (cs.map some) := by
    refine paired_of (by simp [lw]) fun i a b e1 e2 x hx => ?_
    rw [List.getElem?_map] at e1 e2
    obtain ⟨v, e3, rfl⟩ := Option.map_eq_some_iff.mp e1
    obtain ⟨d, e4, rfl⟩ := Option.map_eq_some_iff.mp e2
    cases hx
    obtain ⟨y', d', a, o, u, q1, q2, q3, q4, q5, q6, q7⟩ := pw i v e3
    rw [e4] at q2
    cases q2
    exact ⟨v, rfl, RD.wk wk ex _ _ _ q7 q7⟩
  have R1 := RelS.drop (ι0 := ι) R R xs ex
  obtain ⟨ds, rfl, rd⟩ := hs
  have S1 : ∀ {vs : List V} {ds : List D}, RDs X.K H ι vs ds → RSls X.K (pat (inCl cl) (fun _ => none) H) ι vs (ds.map Sl.d) := fun {vs ds} h => by
    induction ds generalizing vs with
    | nil => cases h; exact .nil
    | cons d ds ih => cases h with | cons h1 h2 => exact .cons (s := .d d) (RD.wk wk ex _ _ _ h1 h1) (fun _ _ z => z.elim) (fun z => z) (ih h2)
  have e0 := Env0.drop I.env0 x0
  refine wpAny_call (codeAny_mono (L.run X.A X.stack s (pat (inCl cl) (fun _ => none) H) fa c cl us vs (ws.map some) (cs.map some) ι (ds.map Sl.d) S r S' hr hg e0 f1 c1 C rv hl R1 (S1 rd) W hm) fun z s' hz => ?_)
  match z, hz with
  | .error e, hz => exact hz.elim
  | .ok .next, hz => exact hz.elim
  | .ok .brk, hz => exact hz.elim
  | .ok .cont, hz => exact hz.elim
  | .ok (.ret u), hz =>
    obtain ⟨v, H', os, bare, un, hok, rvu, ι2, q1, q2, q3⟩ := hz
    have nf : ∀ a, inCl cl a → a ∉ frs X.stack := fun a z y => by
      obtain ⟨o, e⟩ := x0 a z
      rw [I.stkFree a y] at e; cases e
    obtain ⟨un2, n2, k2⟩ := un_back un x1 nf
    have up : ∀ b u, H' b = some u → pat (inCl cl) H H' b = some u := fun b u e => (pat_out fun z => by rw [n2 b z] at e; cases e).trans e
    have hok2 : HOk X.prog X.w (pat (inCl cl) H H') s'.heap := hok_add hok n2 fun a z => let ⟨o, e1, e2⟩ := x1 a z; ⟨o, e1, k2 a o z e2⟩
    have I2 := I.call' os un2 hok2 bare (fun b hb => absurd hb (by simp))
    have keep : ∀ b u, H b = some u → b ∉ ι → pat (inCl cl) H H' b = some u ∧ b ∉ ι2 := fun b u e hb => by
      by_cases z : inCl cl b
      · refine ⟨(pat_in z).trans e, fun y => ?_⟩
        obtain ⟨n, hn⟩ := List.getElem?_of_mem y
        have hlt := (List.getElem?_eq_some_iff.mp hn).1
        rw [q1.ilen] at hlt
        obtain ⟨w, hw, _⟩ := (q1.st n _ b (List.getElem?_eq_getElem hlt) hn).there
        rw [n2 b z] at hw; cases hw
      · obtain ⟨k1, k3⟩ := q2.keep b u ((pat_out z).trans e) hb
        exact ⟨(pat_out z).trans k1, k3⟩
    have dom : ∀ b u, H b = some u → ∃ u', pat (inCl cl) H H' b = some u' := fun b u e => by
      by_cases z : inCl cl b
      · exact ⟨u, (pat_in z).trans e⟩
      · obtain ⟨u', e'⟩ := q2.dom b u ((pat_out z).trans e)
        exact ⟨u', (pat_out z).trans e'⟩
    have st : Stay H (pat (inCl cl) H H') := by
      refine ⟨fun a ys e => ?_, fun a o u e => ?_, fun a C e => ?_, fun a q e => ?_, fun a u e l => (keep a u e (R.away e l)).1⟩
      · exact up _ _ (q2.stay.tup a ys (nl _ _ e fun _ _ _ z => (nomatch z)))
      · exact up _ _ (q2.stay.frz a o u (nl _ _ e fun _ _ _ z => (nomatch z)))
      · have e' := q2.stay.exc a C (ex a C e)
        rcases e' with e' | ⟨dd, u, e1, e2, e3⟩
        · exact .inl (up _ _ e')
        · exact .inr ⟨dd, u, up _ _ e1, up _ _ e2, e3⟩
      · exact up _ _ (q2.stay.cod a q (nl _ _ e fun o v z => (cell_ns z).2.2.1 _))
    refine ⟨v, _, ι2, I2, rvu, q1.ext up, ⟨q2.pre, st, dom, keep⟩, ?_⟩
    cases r with
    | d x => exact RD.mono (stay_ext up) ⟨[], by simp⟩ _ _ q3
    | new o =>
      obtain ⟨a, rfl, ro, n3, n4⟩ := q3
      refine ⟨a, rfl, ro.mono (stay_ext up) ⟨[], by simp⟩ fun u e => up _ _ e, n3, ?_⟩
      obtain ⟨u, hu, _⟩ := ro.there
      have : ¬ inCl cl a := fun z => by rw [n2 a z] at hu; cases hu
      exact (pat_out this).symm.trans n4
end
end G

set_option Elab.async false
set_option linter.all false
set_option maxRecDepth 1000000
set_option maxHeartbeats 4000000
/-! GLG: the rules: a lambda called, a lambda handed over. -/
namespace G
variable [Wld]
open PySem PySem.Spec PyProof.Rows L2 LamX NdefX
/-- the call of the lambda id in the slot i -/
def mCallLm (i id n : Nat) (f : List (Option D) → Fn) (ms : M (List R)) : M R := bnd (mVar i) fun r => match r with
  | .lm j cs => if j = id then bnd ms fun rs e S => match dsOf rs with
    | some ds => if ds.length = n then (f (cs.map some) (ds.map Sl.d) S).map fun (r, S') => (r.r, e, S') else none
    | none => none
    else stk
  | _ => stk
section
variable {X : Cx} {k np id i : Nat} {f : List (Option D) → Fn} {x : Str} {ex : Expr} {es : List Expr} {ms : M (List R)} {p pos : Pos}
end

/-! ### a lambda handed over -/
def capts (e : En) : List Nat → Option (List D)
  | [] => some []
  | j :: js => match capt e j, capts e js with
    | some d, some ds => some (d :: ds)
    | _, _ => none
theorem capts_at {e : En} : ∀ {js : List Nat} {cs : List D}, capts e js = some cs → cs.length = js.length ∧ ∀ (i j : Nat) (d : D), js[i]? = some j → cs[i]? = some d → e[j]? = some (some (.d d))
  | [], _, h => by cases h; exact ⟨rfl, fun i j d h => by simp at h⟩
  | j :: js, cs, h => by
    unfold capts at h
    split at h
    · rename_i d ds h1 h2
      cases h
      obtain ⟨q1, q2⟩ := capts_at h2
      refine ⟨by simp [q1], fun i k d' e1 e2 => ?_⟩
      cases i with
      | zero =>
        simp at e1 e2
        subst e1 e2
        unfold capt at h1
        split at h1
        · cases h1; assumption
        · cases h1
      | succ i => exact q2 i k d' (by simpa using e1) (by simpa using e2)
    · cases h
def mPassLm (n id : Nat) (js : List Nat) (f : Fn) (m : M R) : M R := bnd m fun r e S => match S[n]?, toArg r e, capts e js with
  | some (.tab k), some s, some cs => if k = n then (f [s, .lm id cs] S).map fun (r, S') => (r.r, e, S') else none
  | _, _, _ => none
theorem excs_drop {A : Addr → Prop} [DecidablePred A] {H : Hp} (x : ∀ a, A a → ∃ o v, H a = some (exa a o) ∧ o.data = .cell v) {a C : Addr} (h : ExcS H a C) : ExcS (pat A (fun _ => none) H) a C := by
  have nl : ∀ b u, H b = some u → (∀ o v, o.data = .cell v → exa b o ≠ u) → pat A (fun _ => none) H b = some u := fun b u e hu => (pat_out fun z => by
    obtain ⟨o, v, e1, e2⟩ := x b z
    rw [e1] at e
    exact hu o v e2 (Option.some.inj e)).trans e
  rcases h with e | ⟨dd, u, e, e2, e3⟩
  · exact .inl (nl _ _ e fun o v z => (cell_ns z).1 _)
  · exact .inr ⟨dd, u, nl _ _ e fun o v z => (cell_ns z).2.1 _ _, nl _ _ e2 fun o v z y => e3 (y ▸ exa_cell z), e3⟩
section
variable {X : Cx} {k n id : Nat} {f : Fn} {x : Str} {ex : Expr} {m : M R} {p pos lpos : Pos} {params : Arguments} {b : Expr} {scope : Scope} {fr : List Str} {js : List Nat} {c : Addr}
open Classical in
/-- x(ex, lambda ..), x a def of the text -/
theorem ge_passLm (F : GF X.prog X.w X.K X.mg X.base k x 2 f) (hr : Room k X.A) (hgd : X.A.guards = some []) (hg : Gl X x) (ha : GE X ex m) (TB : TabB X.base X.mg c (Wld.tb n)) (hcode : X.env.code = .ref c) (hq : Wld.tq n = X.env.qual ++ "<lambda>")
    (hlm : Wld.lm id = ⟨Wld.tq n, params, b, scope, fr⟩) (hfn : ∀ y, X.fn y = true)
    (hfree : ∀ y ∈ scope.names, y.2 = .free → X.env.scope.names.lookup y.1 = some .cell ∨ X.env.scope.names.lookup y.1 = some .free) (hfr : ∀ y ∈ fr, (y, NameKind.free) ∈ scope.names) (hjs : js.map (fun j => X.N[j]?) = fr.map some) (hdef : defaultsOf params X.env = ([], []))
    (hdb : (x == ("__debug__" : Str)) = false := by decide) (h1 : starEach [ex, .Lambda params b scope lpos] X.env = (false, eval ex X.env) :: starEach [.Lambda params b scope lpos] X.env := by rfl) (h2 : starEach [.Lambda params b scope lpos] X.env = (false, eval (.Lambda params b scope lpos) X.env) :: starEach [] X.env := by rfl)
    (hpl : (backTo pos (starEach [.Lambda params b scope lpos] X.env)).any (·.1) = false := by rfl) : GE X (.Call (.Name x p) [ex, .Lambda params b scope lpos] [] pos) (mPassLm n id js f m) := by
  refine ⟨fun pins s σ H Q I h => ?_⟩
  obtain ⟨ι, e, S, r, e', S', R, hm0, q⟩ := h
  obtain ⟨r0, e1, S1, h0, hm⟩ := bnd_eq hm0
  clear hm0
  have hm' : (match S1[n]?, toArg r0 e1, capts e1 js with
    | some (.tab k), some s, some cs => if k = n then (f [s, .lm id cs] S1).map fun (r, S') => (r.r, e1, S') else none
    | _, _, _ => none) = some (r, e', S') := hm
  clear hm
  obtain ⟨fg, fd, ps, ok, hmg, hk, hb⟩ := F.ex
  split at hm'
  · rename_i kk sa cs hS hsa hcs
    split at hm'
    · rename_i hkn
      subst hkn
      obtain ⟨⟨rt, S3⟩, h3, e3⟩ := Option.map_eq_some_iff.mp hm'
      cases e3
      have pa := pa_cons ha (pa_cons (pe_lm (pos := lpos) TB hcode hq hdef hfree) pa_nil h2) h1
      refine wpAny_Call_Name_kw (ld_glob I hg hmg ?_ hdb)
      refine PySem.W.callWith_K (h₀ := X.base) I.ok.mod.kin hk (thn (pa.run pos pins s σ H (fun vs H2 => ∃ v fa c ι2, vs = [v, .ref fa] ∧ Rel X.K H2 ι2 σ e' S1 ∧ Post H ι σ e H2 ι2 σ e' ∧ RR X.K H2 ι2 σ e' v r0 ∧
        H2 fa = some (LmO fa (lmF (Wld.tq kk) params scope (cloFrom X.env.cells scope.names []) c) b) ∧ H2 c = some (CodeO c (Wld.tq kk))) I ?_) fun us s1 ⟨vs, H2, I2, rv, q2⟩ => ⟨I2.kIn, ?_⟩) h1 hpl
      · refine ⟨ι, e, S, r0, e', S1, R, h0, fun v H1 ι1 R1 P1 rr1 _ => ⟨ι1, e', S1, R1, hS, fun fa c H2 R2 P2 _ g1 g2 => ⟨v, fa, c, ι1, rfl, R2, P1.trans P2, rr1.post P2, g1, g2⟩⟩⟩
      obtain ⟨v, fa, c', ι2, rfl, R2, P2, rr, g1, g2⟩ := q2
      -- the captured cells
      obtain ⟨cl, hcl⟩ : ∃ cl, cl = cloFrom X.env.cells scope.names [] := ⟨_, rfl⟩
      have C := Caps.made (fr := fr) (js := js) I2.ok hfree hfr hjs
      rw [← hcl] at C g1
      have sub : ∀ a, inCl cl a → ∃ y, X.env.cells.lookup y = some a := fun a ⟨y, e⟩ => ⟨y, C.sub y a e⟩
      have n0 : ∀ a, inCl cl a → H2 a = none := fun a z => let ⟨y, e⟩ := sub a z; I2.freeC y a e
      have x0 : ∀ a, inCl cl a → ∃ o w, s1.heap.get? a = some o ∧ o.data = .cell w := fun a z => let ⟨y, e⟩ := sub a z; let ⟨w, o, g, d⟩ := I2.cell y a e; ⟨o, w, g, d⟩
      obtain ⟨fc, hfc⟩ : ∃ fc : Hp, fc = fun b => (s1.heap.get? b).map fun o => exa b o := ⟨_, rfl⟩
      have fc1 : ∀ a, inCl cl a → ∃ o w, fc a = some (exa a o) ∧ s1.heap.get? a = some o ∧ o.data = .cell w := fun a z => by
        obtain ⟨o, w, g, d⟩ := x0 a z
        exact ⟨o, w, by rw [hfc]; show (s1.heap.get? a).map _ = _; rw [g]; rfl, g, d⟩
      have fc2 : ∀ a, inCl cl a → ∃ o, fc a = some (exa a o) ∧ s1.heap.get? a = some o := fun a z => let ⟨o, w, q1, q2, _⟩ := fc1 a z; ⟨o, q1, q2⟩
      have ge : ∀ a, inCl cl a → X.s_0.heap.objs.size ≤ a := fun a z => let ⟨y, e⟩ := sub a z; I2.ok.cab y a (hfn y) e
      have nb : ∀ a, inCl cl a → X.base.get? a = none := fun a z => by
        cases hbs : X.base.get? a with
        | none => rfl
        | some o => exact absurd (Nat.lt_of_lt_of_le (Heap.lt_size hbs) (Nat.le_trans I2.ok.bsz (ge a z))) (Nat.lt_irrefl _)
      have nf : ∀ a, inCl cl a → a ∉ frs X.stack := fun a z y => by
        rcases List.mem_cons.mp (I2.stkSub a y) with e | e
        · obtain ⟨y', e'⟩ := sub a z
          exact I2.cne y' a e' e
        · obtain ⟨_, o, ho, _⟩ := I2.ok.funs.mem e
          exact absurd (Nat.lt_of_lt_of_le (Heap.lt_size ho) (ge a z)) (Nat.lt_irrefl _)
      have e0 := Env0.add (f := fc) I2.env0 n0 fc2 nb nf
      have up : ∀ b u, H2 b = some u → pat (inCl cl) fc H2 b = some u := fun b u e => (pat_out fun z => by rw [n0 b z] at e; cases e).trans e
      have at_ := cells_of I2 C
      obtain ⟨ca, cb⟩ := capts_at hcs
      have ljs : js.length = fr.length := by have := congrArg List.length hjs; simpa using this
      have hlmr : LmR X.K (pat (inCl cl) fc H2) ι2 (.ref fa) id cs fun _ => True := by
        unfold LmR
        rw [hlm]
        refine ⟨fa, c', cl, rfl, up _ _ g1, up _ _ g2, trivial, fun y a e => ?_, at_.inj, by rw [ca, ljs], fun j y d ey ed => ?_⟩
        · obtain ⟨o, w, q1, q2, q3⟩ := fc1 a ⟨y, e⟩
          exact ⟨trivial, o, w, (pat_in ⟨y, e⟩).trans q1, q3⟩
        · have hj : j < js.length := by rw [← ca]; exact (List.getElem?_eq_some_iff.mp ed).1
          have hj2 := List.getElem?_eq_getElem hj
          have he := cb j _ d hj2 ed
          obtain ⟨w, hw, rd⟩ := R2.sl _ _ he
          obtain ⟨a, hla, hv⟩ := at_.has j y ey
          obtain ⟨u, ru, o, go, dd⟩ := hv w (by rw [List.getElem?_map, hj2]; simp [slotAt_of hw])
          refine ⟨a, o, u, w, hla, (pat_in ⟨y, hla⟩).trans ?_, dd, ru, RD.mono (stay_ext up) ⟨[], by simp⟩ _ _ rd⟩
          rw [hfc]; show (s1.heap.get? a).map _ = _; rw [go]; rfl
      obtain ⟨sa1, sa2, sa3⟩ := R2.arg rr hsa
      have rs := R2.s.ext up
      have hsp : spG X.K 2 f ([v, .ref fa] ++ []) (pat (inCl cl) fc H2) (fun w H3 => ∃ ι3, RelS X.K H3 ι3 S' ∧ PostC (pat (inCl cl) fc H2) ι2 H3 ι3 ∧ RRt X.K (pat (inCl cl) fc H2) H3 ι3 w rt) (fun _ _ _ => False) :=
        ⟨rfl, ι2, [sa, .lm id cs], S1, rt, S', rs, .cons (sa1.ext up) sa2 sa3 (.cons (s := .lm id cs) hlmr (fun _ _ z => z.elim) (fun z => z) .nil), h3, fun w H3 ι3 q1 q2 q3 => ⟨ι3, q1, q2, q3⟩⟩
      have rr' : Vals ([v, .ref fa] ++ []) (us ++ []) := by simpa using rv
      refine wpAny_call (codeAny_mono (ok.run X.A X.stack s1 (pat (inCl cl) fc H2) ⟨us, []⟩ _ _ _ _ hr hgd e0 (hb s1 us I2.kIn (by rw [← rr'.length]; exact ok.len _ _ _ _ hsp)) rr' hsp) fun z s' hz => ?_)
      match z, hz with
      | .error e, hz => exact hz.elim
      | .ok .next, hz => exact hz.elim
      | .ok .brk, hz => exact hz.elim
      | .ok .cont, hz => exact hz.elim
      | .ok (.ret u), hz =>
        obtain ⟨w, H', os, bare, un, hok, rvu, ι3, q1, q2, q3⟩ := hz
        have k3 : ∀ a, inCl cl a → H' a = fc a := fun a z => by
          obtain ⟨o, w, e1, e2, e3⟩ := fc1 a z
          have e4 : pat (inCl cl) fc H2 a = some (exa a o) := (pat_in z).trans e1
          rw [(q2.keep a _ e4 (rs.away e4 (exa_cell e3))).1, e1]
        have xs : ∀ a, inCl cl a → ∃ o v, H' a = some (exa a o) ∧ o.data = .cell v := fun a z => let ⟨o, w, e1, _, e3⟩ := fc1 a z; ⟨o, w, (k3 a z).trans e1, e3⟩
        have un2 := un_drop un n0 k3 fc2 hok
        have hok2 := hok_drop hok fun a z => let ⟨o, w, e1, _⟩ := xs a z; ⟨o, e1⟩
        have I3 := I2.call' os un2 hok2 bare (fun b hb => absurd hb (by simp))
        have exd : ∀ a C, ExcS H' a C → ExcS (pat (inCl cl) (fun _ => none) H') a C := fun a C e => excs_drop xs e
        have R3 := RelS.drop (ι0 := ι3) q1 q1 xs exd
        have dn : ∀ b u, H' b = some u → (∀ o v, o.data = .cell v → exa b o ≠ u) → pat (inCl cl) (fun _ => none) H' b = some u := fun b u e hu => (pat_out fun z => by
          obtain ⟨o, v, e1, e2⟩ := xs b z
          rw [e1] at e
          exact hu o v e2 (Option.some.inj e)).trans e
        have wk : Wk H' (pat (inCl cl) (fun _ => none) H') := ⟨fun b ys e => dn _ _ e fun _ _ _ z => (nomatch z), fun b o u e => dn _ _ e fun _ _ _ z => (nomatch z)⟩
        have out : ∀ b u, H2 b = some u → ¬ inCl cl b := fun b u e z => by rw [n0 b z] at e; cases e
        have P3 : PostC H2 ι2 (pat (inCl cl) (fun _ => none) H') ι3 := by
          have keep : ∀ b u, H2 b = some u → b ∉ ι2 → pat (inCl cl) (fun _ => none) H' b = some u ∧ b ∉ ι3 := fun b u e hb => let ⟨y1, y2⟩ := q2.keep b u (up _ _ e) hb; ⟨(pat_out (out b u e)).trans y1, y2⟩
          refine ⟨q2.pre, ⟨fun a ys e => ?_, fun a o u e => ?_, fun a C e => ?_, fun a y e => ?_, fun a u e l => (keep a u e (R2.s.away e l)).1⟩, fun b u e => ?_, keep⟩
          · exact (pat_out (out _ _ e)).trans (q2.stay.tup a ys (up _ _ e))
          · exact (pat_out (out _ _ e)).trans (q2.stay.frz a o u (up _ _ e))
          · exact exd a C (q2.stay.exc a C ((stay_ext up).exc a C e))
          · exact (pat_out (out _ _ e)).trans (q2.stay.cod a y (up _ _ e))
          · obtain ⟨u', e'⟩ := q2.dom b u (up _ _ e)
            exact ⟨u', (pat_out (out b u e)).trans e'⟩
        obtain ⟨R4, P4⟩ := R2.called R3 P3
        refine ⟨w, _, I3, rvu, q w _ ι3 R4 (P2.trans P4) ?_ ?_⟩
        · cases rt with
          | d y => exact RD.wk wk exd _ _ _ q3 q3
          | new o =>
            obtain ⟨a, rfl, ro, y1, y2⟩ := q3
            obtain ⟨u, hu, _⟩ := ro.there
            have na : ¬ inCl cl a := fun z => by
              obtain ⟨o', v', e1, e2⟩ := xs a z
              exact ro.nlm e1 (exa_cell e2)
            refine ⟨a, rfl, ?_, y1, R2.ne_none ((pat_out na).symm.trans y2)⟩
            refine RO.wk (H0 := H') (ι0 := ι3) wk exd (fun b q h => dn b _ h fun o' v' e' => (cell_ns e').2.2.1 _) (fun u h => (pat_out na).trans h) ro ro
        · cases rt with
          | d y => trivial
          | new o =>
            obtain ⟨a, rfl, ro, y1, y2⟩ := q3
            have na : ¬ inCl cl a := fun z => by
              obtain ⟨o', v', e1, e2⟩ := xs a z
              exact ro.nlm e1 (exa_cell e2)
            exact ⟨a, rfl, P2.back ((pat_out na).symm.trans y2)⟩
    · cases hm'
  · cases hm'
end
end G

set_option Elab.async false
set_option linter.all false
set_option maxRecDepth 1000000
set_option maxHeartbeats 4000000
/-! GLH: TAB.get(k, x); the calculus of what lambdas brought. -/
namespace G
variable [Wld]
open PySem PySem.Spec PyProof.Rows L2
def gGetT (tb : List (Str × D)) (y : R) (z : D) : M R := match y with
  | .d (.str t) => pur (.d ((tb.lookup t).getD z))
  | _ => stk
def mGetT (tb : List (Str × D)) (mk mz : M R) : M R := bnd mk fun y => bnd mz fun z => bnd (unD z) fun z => gGetT tb y z
section
variable {X : Cx} {d : Addr} {tb : List (Str × D)} {x : Str} {k f : Expr} {mk mz : M R} {p apos cpos : Pos}
end
/-! ### calculus -/
section
variable {e : En} {S : Sto} {Q : R → En → Sto → Prop}
end
end G

set_option Elab.async false
set_option linter.all false
set_option maxRecDepth 1000000
set_option maxHeartbeats 4000000
/-! GLI: xs[::-1] of a list. -/
namespace G
variable [Wld]
open PySem PySem.Spec PyProof.Rows L2
section
variable {X : Cx}
def gBackL (r : R) : M R := fun e S => match look r e S with
  | some (.lst ds) => some (.new (.lst ds.reverse), e, S)
  | _ => none
end
end G

set_option Elab.async false
set_option linter.all false
set_option maxRecDepth 1000000
set_option maxHeartbeats 4000000
/-! GLJ: [elt for a in xs if .. for b in ys if ..], ys told as a locked value, or a list of the store. -/
namespace G
variable [Wld]
open PySem PySem.Spec PyProof.Rows L2
abbrev Wch := List (R × List D)
def itemsD (x : D) (S : Sto) : Option (List D × Wch) := match x with
  | .tup ds => some (ds, [])
  | .lst ds => some (ds, [])
  | .ref n => (match S[n]? with
    | some (.lst ds) => some (ds, [(.d (.ref n), ds)])
    | _ => none)
  | _ => none
def FeedsS (K : PySem.W.Frag) (p : List D × Wch) (J : It) (H1 : Hp) (ι1 : List Addr) : Prop :=
  ∀ i H ι σ e S, Stay H1 H → (∃ l, ι = ι1 ++ l) → Rel K H ι σ e S → Wat p.2 e S → (∀ d, p.1[i]? = some d → J.go i H ∧ ∀ x H', J.yld i H x H' → H' = H ∧ RD K H ι x d) ∧ (p.1.length ≤ i → J.stop i H)
def tGD (K : PySem.W.Frag) (m : M R) : TI := fun σ H Rr => ∃ ι e S x p e' S', Rel K H ι σ e S ∧ m e S = some (.d x, e', S') ∧ itemsD x S' = some p ∧
  ∀ J H' ι', Rel K H' ι' σ e' S' → Post H ι σ e H' ι' σ e' → FeedsS K p J H' ι' → Rr J H'
theorem Post.unwipe {H1 H : Hp} {ι1 ι : List Addr} {σ1 σ : SV} {e1 e : En} {vs : List Nat} (P : Post H1 ι1 σ1 e1 H ι (L2.wipe σ vs) e) (hw : ∀ i ∈ vs, ∀ s, e[i]? ≠ some (some s)) : Post H1 ι1 σ1 e1 H ι σ e := by
  refine ⟨P.pre, P.stay, P.dom, fun b x g1 g2 g3 => ?_⟩
  obtain ⟨z1, z2, z3, z4⟩ := P.keep b x g1 g2 g3
  have fwd : ∀ {i : Nat} {s : Sl} {v : V}, e[i]? = some (some s) → σ[i]? = some (some v) → (L2.wipe σ vs)[i]? = some (some v) := fun {i s v} h h' => by
    rw [wipe_at, if_neg (fun z => hw i z.1 s h)]; exact h'
  refine ⟨z1, z2, ?_, fun h => ?_⟩
  · rintro ⟨i, o, h5, h6⟩
    exact z3 ⟨i, o, h5, fwd h5 h6⟩
  · rintro ⟨i, s, h5, h7, h6⟩
    exact z4 h ⟨i, s, h5, h7, fwd h5 h6⟩
/-! ### two loops -/
noncomputable def compL2 (vs vs1 : List Nat) (t : Tgt) (c : M Bool) (m1 : M R) (t1 : Tgt) (c1 : M Bool) (elt : M R) (ws : List (R × List D)) : List D → Nat → M (List D)
  | [], _ => fun e S => if wat ws e S then some ([], e, S) else none
  | d :: ds, n => fun e S => if wat ws e S then (match t d e with
    | some e1 => match c e1 S with
      | some (true, e2, S2) => (match m1 e2 S2 with
        | some (.d x, e3, S3) => (match itemsD x S3 with
          | some (its, wc) => if n + its.length ≤ 1000000 then (match compL vs1 t1 c1 elt wc its (wipeE e3 vs1) S3 with
            | some (ys, e4, S4) => (match compL2 vs vs1 t c m1 t1 c1 elt ws ds (n + its.length) (wipeE e4 vs) S4 with
              | some (zs, e5, S5) => some (ys ++ zs, e5, S5)
              | none => none)
            | none => none) else none
          | none => none)
        | _ => none)
      | some (false, e2, S2) => compL2 vs vs1 t c m1 t1 c1 elt ws ds n (wipeE e2 vs) S2
      | none => none
    | none => none) else none
noncomputable def mLc2 (vs vs1 : List Nat) (t : Tgt) (mi : M Src) (c : M Bool) (m1 : M R) (t1 : Tgt) (c1 : M Bool) (elt : M R) : M R := bnd mi fun src => bnd (fun e S => compL2 vs vs1 t c m1 t1 c1 elt src.ws src.items 0 (wipeE e vs) S) fun ys => pur (.new (.lst ys))
theorem compL2_env {vs vs1 : List Nat} {t t1 : Tgt} {c c1 : M Bool} {m1 elt : M R} {ws : List (R × List D)} : ∀ {ds : List D} {n : Nat} {e : En} {S : Sto} {z}, compL2 vs vs1 t c m1 t1 c1 elt ws ds n e S = some z → (∀ i ∈ vs, ∀ s, e[i]? ≠ some (some s)) → ∀ i ∈ vs, ∀ s, z.2.1[i]? ≠ some (some s)
  | [], n, e, S, z, h, hw => by
    unfold compL2 at h
    split at h
    · cases h; exact hw
    · cases h
  | d :: ds, n, e, S, z, h, hw => by
    unfold compL2 at h
    split at h
    case isFalse => cases h
    split at h
    case h_2 => cases h
    split at h
    · split at h
      · split at h
        · split at h
          · split at h
            · split at h
              · rename_i hh
                cases h
                exact fun i hi s => (compL2_env hh (fun i hi s => wipeE_none hi) i hi s)
              · cases h
            · cases h
          · cases h
        · cases h
      · cases h
    · exact compL2_env h fun i hi s => wipeE_none hi
    · cases h
section
variable {X : Cx} {elt tg iter tg1 iter1 : Expr} {ifs ifs1 : List Expr} {scope : Scope} {own : List (Str × Nat)} {vs1 : List Nat} {pos : Pos} {mi : M Src} {t t1 : Tgt} {mc mc1 : M Bool} {m1 me : M R}
end
/-! ### what they come to -/
section
variable {e : En} {S : Sto} {vs vs1 : List Nat} {t t1 : Tgt} {c c1 : M Bool} {m1 elt : M R} {ws : List (R × List D)}
end
end G

set_option Elab.async false
set_option linter.all false
set_option maxRecDepth 1000000
set_option maxHeartbeats 4000000
/-! GLK: instances of a class of the text: fields, methods, making; defs with keyword-only defaults; split, int of a text. -/
namespace G
variable [Wld]
open PySem PySem.Spec PyProof.Rows L2
def insOf (r : R) (S : Sto) (c : Nat) : Option (Nat × List Str × List D) := match r with
  | .d (.ref n) => match S[n]? with
    | some (.ins c' ns ds) => if c' = c then some (n, ns, ds) else none
    | _ => none
  | _ => none
theorem insOf_eq {r : R} {S : Sto} {c n : Nat} {ns : List Str} {ds : List D} (h : insOf r S c = some (n, ns, ds)) : r = .d (.ref n) ∧ S[n]? = some (.ins c ns ds) := by
  unfold insOf at h
  split at h
  · split at h
    · rename_i n' c' ns' ds' hS
      split at h
      · rename_i hc
        cases h
        subst hc
        exact ⟨rfl, hS⟩
      · cases h
    · cases h
  · cases h
section
variable {K : PySem.W.Frag} {H : Hp} {ι : List Addr} {σ : SV} {e : En} {S : Sto} {v : V} {r : R}
theorem Rel.insOf {c n : Nat} {ns : List Str} {ds : List D} (R : Rel K H ι σ e S) (hr : RR K H ι σ e v r) (h : G.insOf r S c = some (n, ns, ds)) :
    ∃ a dx xs, v = .ref a ∧ r = .d (.ref n) ∧ ι[n]? = some a ∧ S[n]? = some (.ins c ns ds) ∧ H a = some (.ins (Wld.cls c) dx (ns.zip xs)) ∧ ns.length = ds.length ∧ RDs K H ι xs ds := by
  obtain ⟨rfl, hS⟩ := insOf_eq h
  cases hr with
  | ref h1 =>
    obtain ⟨dx, xs, h2, h3, h4⟩ := R.st _ _ _ hS h1
    exact ⟨_, dx, xs, rfl, rfl, h1, hS, h2, h3, h4⟩
theorem lookup_rd {f : Str} {d : D} : ∀ {ns : List Str} {xs : List V} {ds : List D}, RDs K H ι xs ds → (ns.zip ds).lookup f = some d → ∃ v, (ns.zip xs).lookup f = some v ∧ RD K H ι v d
  | [], _, _, _, h => by simp at h
  | n :: ns, _, [], hx, h => by simp at h
  | n :: ns, _, d' :: ds, .cons h1 h2, h => by
    simp only [List.zip_cons_cons, List.lookup_cons] at h ⊢
    split at h
    · cases h
      exact ⟨_, rfl, h1⟩
    · exact lookup_rd h2 h
theorem lookup_non {f : Str} : ∀ {ns : List Str} {xs : List V}, f ∉ ns → (ns.zip xs).lookup f = none
  | [], _, _ => by simp
  | n :: ns, [], _ => by simp
  | n :: ns, x :: xs, h => by
    have h1 : (f == n) = false := by
      rw [beq_eq_false_iff_ne]
      exact fun z => h (z ▸ List.mem_cons_self)
    simp only [List.zip_cons_cons, List.lookup_cons, h1]
    exact lookup_non fun z => h (List.mem_cons_of_mem _ z)
theorem putF_new {f : Str} {y : V} : ∀ {ns : List Str} {xs : List V}, ns.length = xs.length → f ∉ ns → putF f y (ns.zip xs) = (ns ++ [f]).zip (xs ++ [y])
  | [], [], _, _ => rfl
  | n :: ns, x :: xs, hl, h => by
    have h1 : n ≠ f := fun z => h (z ▸ List.mem_cons_self)
    simp only [List.zip_cons_cons, List.cons_append]
    unfold putF
    rw [if_neg h1, putF_new (by simpa using hl) fun z => h (List.mem_cons_of_mem _ z)]
theorem RRs.app {vs ws : List V} {rs : List R} {dd : List D} (h : RRs K H ι σ e vs rs) (h2 : RDs K H ι ws dd) : RRs K H ι σ e (vs ++ ws) (rs ++ dd.map R.d) := by
  induction h with
  | nil =>
    show RRs K H ι σ e ws (dd.map R.d)
    induction dd generalizing ws with
    | nil => cases h2; exact .nil
    | cons d dd ih => cases h2 with | cons a b => exact .cons a (ih b)
  | cons h1 _ ih => exact .cons h1 ih
end
/-! ### fields -/
def mFld (c : Nat) (f : Str) (m : M R) : M R := bnd m fun r e S => match insOf r S c with
  | some (_, ns, ds) => ((ns.zip ds).lookup f).map fun d => (.d d, e, S)
  | none => none
def mSetF (c : Nat) (f : Str) (m mo : M R) : M Fl := bnd m fun r => bnd mo fun ro e S => match r with
  | .d d => match insOf ro S c with
    | some (n, ns, ds) => if f ∉ ns ∧ ns.length < 1000 then some (.nx, e, S.set n (.ins c (ns ++ [f]) (ds ++ [d]))) else none
    | none => none
  | _ => none
section
variable {X : Cx} {ex o value : Expr} {m mo : M R} {f : Str} {c : Nat} {pos pos' : Pos}
theorem ge_fld (hC : Cls X.K (Wld.cls c)) (hN : NoAttr X.K (Wld.cls c) f) (he : GE X ex m) (hb : attributeBase ex f X.env (eval ex X.env) = eval ex X.env := by rfl) : GE X (.Attribute ex f pos) (mFld c f m) := PE.imp (pe_fld he hb) fun σ H Q q => by
  obtain ⟨ι, e, S, r, e', S', R, hm, q⟩ := q
  obtain ⟨x, e1, S1, h1, hm⟩ := bnd_eq hm
  refine ⟨ι, e, S, x, e1, S1, R, h1, fun v H1 ι1 R1 P1 r1 _ => ?_⟩
  split at hm
  · rename_i n ns ds hi
    obtain ⟨d, hd, hz⟩ := Option.map_eq_some_iff.mp hm
    cases hz
    obtain ⟨a, dx, xs, rfl, rfl, hι, hS, hH, hl, hx⟩ := R1.insOf r1 hi
    obtain ⟨v, hv, rv⟩ := lookup_rd hx hd
    exact ⟨a, _, dx, _, v, rfl, hH, hC, hN, hv, q v H1 ι1 R1 P1 rv trivial⟩
  · cases hm
theorem gs_setF (hC : Cls X.K (Wld.cls c)) (hN : NoAttr X.K (Wld.cls c) f) (hv : GE X value m) (ho : GE X o mo) (hs : swapsWith value (some (.Attribute o f pos')) pos.line X.env = pure false := by rfl) :
    GS X (.Assign [.Attribute o f pos'] value pos) (mSetF c f m mo) := PS.imp (ps_fld ho hv hs) fun D σ H q => by
  obtain ⟨ι, e, S, fl, e', S', R, hm, q⟩ := q
  obtain ⟨x, e1, S1, h1, hm⟩ := bnd_eq hm
  obtain ⟨y, e2, S2, h2, hm⟩ := bnd_eq hm
  refine ⟨ι, e, S, x, e1, S1, R, h1, fun v H1 ι1 R1 P1 r1 _ => ⟨ι1, e1, S1, y, e2, S2, R1, h2, fun w H2 ι2 R2 P2 r2 _ => ?_⟩⟩
  cases x with
  | d d =>
    dsimp only at hm
    split at hm
    · rename_i n ns ds hi
      split at hm
      · rename_i hf
        cases hm
        obtain ⟨a, dx, xs, rfl, rfl, hι, hS, hH, hl, hx⟩ := R2.insOf r2 hi
        have r1' : RD X.K H2 ι2 v d := r1.post P2
        have hl2 : ns.length = xs.length := by rw [hl, hx.length]
        obtain ⟨a', ea, ro, w⟩ := R2.write (r := .d (.ref n)) (.ref hι) (o := .ins c ns ds) hS rfl
        cases ea
        have st := ro.stay (.ins (Wld.cls c) dx ((ns ++ [f]).zip (xs ++ [v]))) (lmu_of fun _ z => nomatch z) (fun _ z => by cases z)
        obtain ⟨R3, P3⟩ := w (.ins (Wld.cls c) dx ((ns ++ [f]).zip (xs ++ [v]))) (.ins c (ns ++ [f]) (ds ++ [d])) ⟨dx, xs ++ [v], upd_same, by simp [hl], RDs.mono st ⟨[], by simp⟩ _ _ (hx.append (.cons r1' .nil))⟩
        refine ⟨a, _, dx, _, rfl, hH, hC, hN, by rw [List.length_zip]; omega, ?_⟩
        rw [putF_new hl2 hf.1]
        exact q σ _ ι2 R3 ((P1.trans P2).trans P3)
      · cases hm
    · cases hm
  | _ => cases hm
end
/-! ### methods -/
/-- a method of the class c, dd the defaults that fill up -/
structure GFM (P : Program) (w : World) (K : PySem.W.Frag) (mg : Str → Option Value) (base : Heap) (k : Nat) (c : Nat) (x : Str) (n : Nat) (dd : List D) (m : Fn) : Prop where
  ex : ∃ f fd ps ds dvs, FnG P w K mg base k f fd ps (spG K n m) ∧ Meth K (Wld.cls c) x f ∧ Binds K fd ps ds ∧ Vals dvs ds ∧ ∀ H ι, RDs K H ι dvs dd
theorem GFM.mono {P : Program} {w : World} {K : PySem.W.Frag} {mg : Str → Option Value} {base : Heap} {j k c n : Nat} {x : Str} {dd : List D} {m : Fn} (F : GFM P w K mg base j c x n dd m) (h : j ≤ k) : GFM P w K mg base k c x n dd m := by
  obtain ⟨f, fd, ps, ds, dvs, ok, hm, hb⟩ := F.ex
  exact ⟨⟨f, fd, ps, ds, dvs, ok.mono h, hm, hb⟩⟩
def mMeth (c : Nat) (x : Str) (n : Nat) (dd : List D) (f : Fn) (mo : M R) (ms : M (List R)) : M R := bnd mo fun r e S => match insOf r S c with
  | some (_, ns, _) => if x ∈ ns then none else mCall n f (bnd ms fun rs => pur (r :: (rs ++ dd.map R.d))) e S
  | none => none
section
variable {X : Cx} {k : Nat} {f : Addr} {fd : FuncData} {ps : List Str} {sp : Sp} {dvs : List V} {ds : List Value} {E : XK} {o e : Expr} {es : List Expr} {ta : TE} {t : TA} {pos apos p : Pos} {C : Addr} {m x : Str}
theorem pe_methG {pl : Sem Bool} (he : PE X o ta) (c : Cls X.K C) (hm : Meth X.K C m f) (F : FnG X.prog X.w X.K X.mg X.base k f fd ps sp) (hr : Room k X.A) (hg : X.A.guards = some []) (hb : Binds X.K fd ps ds) (hd : Vals dvs ds) (hx : Passes CX0 X E) (ha : PA X (e :: es) t)
    (hst : starEach (e :: es) X.env = (false, eval e X.env) :: starEach es X.env := by rfl) (hpl : (backTo pos (starEach es X.env)).any (·.1) = false := by rfl)
    (ht : eval (.Call (.Attribute o m apos) (e :: es) [] pos) X.env = (do
      let ov ← eval o X.env
      standAt apos.atName
      let (f, first) ← holding [ov] (getMethod ov m pl)
      callWith pos f first (backTo pos (starEach (e :: es) X.env)) (backToKw pos (keywordEach [] X.env))) := by rfl) :
    PE X (.Call (.Attribute o m apos) (e :: es) [] pos) (tMeth C m sp dvs E ta t) := by
  refine ⟨fun pins s σ H Q I h => ?_⟩
  refine PySem.W.methodCall_KW (pl := pl) (thn (he.run pins s σ H _ I h) fun u s1 ⟨x, H1, I1, rx, a, dx, fs, ex, ea, l, q⟩ => ?_) ht
  subst ex
  obtain rfl : u = Value.ref a := rx
  refine getmeth_ok I1 ea c hm l ?_
  refine PySem.W.callWith_K (first := [.ref a]) (h₀ := X.base) I.ok.mod.kin hm.kp (thn (ha.run pos pins s1 σ H1 _ I1 q) fun us s2 ⟨vs, H2, I2, r, q2⟩ => ⟨I2.kIn, ?_⟩) hst hpl
  exact F.enter (us := .ref a :: us) (vs := .ref a :: vs) hr hg hb hd hx I2 (.cons rfl r) q2
theorem pe_methG0 {pl : Sem Bool} (he : PE X o ta) (c : Cls X.K C) (hm : Meth X.K C m f) (F : FnG X.prog X.w X.K X.mg X.base k f fd ps sp) (hr : Room k X.A) (hg : X.A.guards = some []) (hb : Binds X.K fd ps ds) (hd : Vals dvs ds) (hx : Passes CX0 X E)
    (ht : eval (.Call (.Attribute o m apos) [] [] pos) X.env = (do
      let ov ← eval o X.env
      standAt apos.atName
      let (f, first) ← holding [ov] (getMethod ov m pl)
      callWith pos f first (backTo pos (starEach [] X.env)) (backToKw pos (keywordEach [] X.env))) := by rfl) :
    PE X (.Call (.Attribute o m apos) [] [] pos) (tMeth C m sp dvs E ta tNil) := by
  refine ⟨fun pins s σ H Q I h => ?_⟩
  refine PySem.W.methodCall_KW (pl := pl) (thn (he.run pins s σ H _ I h) fun u s1 ⟨x, H1, I1, rx, a, dx, fs, ex, ea, l, q⟩ => ?_) ht
  subst ex
  obtain rfl : u = Value.ref a := rx
  refine getmeth_ok I1 ea c hm l ?_
  exact PySem.W.callWith_K0 (first := [.ref a]) I1.kIn hm.kp (F.enter (us := [.ref a]) (vs := [.ref a]) hr hg hb hd hx I1 (.cons rfl .nil) q)
end
theorem tG_callR {K : PySem.W.Frag} {f : Fn} {σ : SV} {H H1 : Hp} {Q : VK} {n : Nat} {E : XK} {ι ι1 : List Addr} {e e1 e' : En} {S1 S' : Sto} {rs : List R} {vs : List V} {r : R} (R1 : Rel K H1 ι1 σ e1 S1) (P1 : Post H ι σ e H1 ι1 σ e1) (r1 : RRs K H1 ι1 σ e1 vs rs)
    (hm : (if rs.length = n then (fun e S => match toArgs rs e with
      | some sls => (f sls S).map fun (r, S') => (r.r, e, S')
      | none => none : M R) else stk) e1 S1 = some (r, e', S'))
    (q : ∀ v H' ι', Rel K H' ι' σ e' S' → Post H ι σ e H' ι' σ e' → RR K H' ι' σ e' v r → Fresh H v r → Q v H') : spG K n f vs H1 Q E := by
  split at hm
  · rename_i hn
    have hm' : (match toArgs rs e1 with
      | some sls => (f sls S1).map fun (r, S') => (r.r, e1, S')
      | none => none) = some (r, e', S') := hm
    split at hm'
    · rename_i sls hs
      obtain ⟨⟨rt, S2⟩, h2, e2⟩ := Option.map_eq_some_iff.mp hm'
      cases e2
      refine ⟨by rw [r1.length]; exact hn, ι1, sls, S1, rt, S', R1.s, R1.args r1 hs, h2, fun v H2 ι2 R2 P2 r2 => ?_⟩
      obtain ⟨R3, P3⟩ := R1.called R2 P2
      refine q v H2 ι2 R3 (P1.trans P3) ?_ ?_
      · cases rt with
        | d x => exact r2
        | new o =>
          obtain ⟨a, rfl, ro, n1, n2⟩ := r2
          exact ⟨a, rfl, ro, n1, R1.ne_none n2⟩
      · cases rt with
        | d x => trivial
        | new o =>
          obtain ⟨a, rfl, ro, n1, n2⟩ := r2
          exact ⟨a, rfl, P1.back n2⟩
    · cases hm'
  · cases hm
theorem tG_meth {K : PySem.W.Frag} {c n : Nat} {x : Str} {dd : List D} {f : Fn} {mo : M R} {ms : M (List R)} {σ : SV} {H : Hp} {Q : VK} {E : XK} {dvs : List V} (hd : ∀ H ι, RDs K H ι dvs dd) (q : tG K (mMeth c x n dd f mo ms) σ H Q) :
    tMeth (Wld.cls c) x (spG K n f) dvs E (tG K mo) (tGA K ms) σ H Q := by
  obtain ⟨ι, e, S, r, e', S', R, hm, q⟩ := q
  obtain ⟨y, e1, S1, h1, hm⟩ := bnd_eq hm
  refine ⟨ι, e, S, y, e1, S1, R, h1, fun v H1 ι1 R1 P1 r1 _ => ?_⟩
  split at hm
  · rename_i n' ns ds hi
    split at hm
    · cases hm
    · rename_i hns
      obtain ⟨rs0, e2, S2, h2, hm⟩ := bnd_eq hm
      obtain ⟨rs, e3, S3, h3, h4⟩ := bnd_eq h2
      cases h4
      obtain ⟨a, dx, xs, rfl, rfl, hι, hS, hH, hl, hx⟩ := R1.insOf r1 hi
      refine ⟨a, dx, _, rfl, hH, lookup_non hns, ι1, e1, S1, rs, e2, S2, R1, h3, fun vs H2 ι2 R2 P2 r2 => ?_⟩
      exact tG_callR (rs := .d (.ref n') :: (rs ++ dd.map G.R.d)) R2 (P1.trans P2) (.cons (r1.post P2) (r2.app (hd _ _))) hm q
  · cases hm
section
variable {X : Cx} {k n c : Nat} {f : Fn} {x : Str} {dd : List D} {o ex : Expr} {es : List Expr} {mo : M R} {ms : M (List R)} {pos apos : Pos}
theorem ge_meth {pl : Sem Bool} (F : GFM X.prog X.w X.K X.mg X.base k c x n dd f) (hC : Cls X.K (Wld.cls c)) (hr : Room k X.A) (hgd : X.A.guards = some []) (ho : GE X o mo) (ha : GA X (ex :: es) ms)
    (hst : starEach (ex :: es) X.env = (false, eval ex X.env) :: starEach es X.env := by rfl) (hpl : (backTo pos (starEach es X.env)).any (·.1) = false := by rfl)
    (ht : eval (.Call (.Attribute o x apos) (ex :: es) [] pos) X.env = (do
      let ov ← eval o X.env
      standAt apos.atName
      let (f, first) ← holding [ov] (getMethod ov x pl)
      callWith pos f first (backTo pos (starEach (ex :: es) X.env)) (backToKw pos (keywordEach [] X.env))) := by rfl) : GE X (.Call (.Attribute o x apos) (ex :: es) [] pos) (mMeth c x n dd f mo ms) := by
  obtain ⟨fa, fd, ps, ds, dvs, ok, hm, hb, hv, hd⟩ := F.ex
  exact PE.imp (pe_methG ho hC hm ok hr hgd hb hv pass0 ha hst hpl ht) fun σ H Q q => tG_meth (E := E0) hd q
theorem ge_meth0 {pl : Sem Bool} (F : GFM X.prog X.w X.K X.mg X.base k c x n dd f) (hC : Cls X.K (Wld.cls c)) (hr : Room k X.A) (hgd : X.A.guards = some []) (ho : GE X o mo)
    (ht : eval (.Call (.Attribute o x apos) [] [] pos) X.env = (do
      let ov ← eval o X.env
      standAt apos.atName
      let (f, first) ← holding [ov] (getMethod ov x pl)
      callWith pos f first (backTo pos (starEach [] X.env)) (backToKw pos (keywordEach [] X.env))) := by rfl) : GE X (.Call (.Attribute o x apos) [] [] pos) (mMeth c x n dd f mo mNil) := by
  obtain ⟨fa, fd, ps, ds, dvs, ok, hm, hb, hv, hd⟩ := F.ex
  refine PE.imp (pe_methG0 ho hC hm ok hr hgd hb hv pass0 ht) fun σ H Q q => ?_
  have h := tG_meth (E := E0) hd q
  unfold tMeth at h ⊢
  obtain ⟨ι, e, S, r, e', S', R, hm, q⟩ := h
  refine ⟨ι, e, S, r, e', S', R, hm, fun v H' ι' R' P' r' f' => ?_⟩
  obtain ⟨a, dx, fs, h1, h2, h3, ι2, e2, S2, rs, e3, S3, R2, h4, q2⟩ := q v H' ι' R' P' r' f'
  cases h4
  exact ⟨a, dx, fs, h1, h2, h3, q2 [] H' ι2 R2 .refl .nil⟩
end
end G

set_option Elab.async false
set_option linter.all false
set_option maxRecDepth 1000000
set_option maxHeartbeats 4000000
/-! GLL: an instance made; defs with keyword-only defaults; split, int of a text. -/
namespace G
variable [Wld]
open PySem PySem.Spec PyProof.Rows L2
theorem under_guards {A : Around} {C : Addr} {us : List Value} {kw : List (Str × Value)} (h : A.guards = some []) : (A.under (.builtin "type.__call__" ⟨.ref C :: us, kw⟩)).guards = some [] := by
  have hg : Code.isGuard (.builtin "type.__call__" ⟨.ref C :: us, kw⟩) = false := by rfl
  unfold Around.under
  simp [Code.guards, hg, h, pushGuards]
section
variable {X : Cx} {k : Nat} {f C : Addr} {fd : FuncData} {ps : List Str} {sp : Sp} {dvs : List V} {ds : List Value} {E : XK} {x : Str} {p pos : Pos} {e : Expr} {es : List Expr} {t : TA}
theorem run_makeG {pins : List (Addr × PySem.Obj)} {σ : SV} {H : Hp} {s : Shared} {Q : VK} {us : List Value} {vs : List V} (M : Mk X.K C f) (F : FnG X.prog X.w X.K X.mg X.base k f fd ps sp) (hr : Room (k + 1) X.A) (hg : X.A.guards = some []) (hb : Binds X.K fd ps ds) (hd : Vals dvs ds)
    (hx : Passes CX0 X E) (I : Inv X pins σ H s) (r : Vals vs us)
    (h : ∀ x dx, H x = none → H dx = none → dx ≠ x → sp (.ref x :: (vs ++ dvs)) (upd (upd H dx (.own x)) x (.ins C dx [])) (fun v H2 => v = .non ∧ Q (.ref x) H2) E) :
    wpAny (model X.prog X.w) X.A (call (.ref C) us) (EP X pins σ Q) X.xe s := by
  have hq := h (s.heap.objs.size + 1) s.heap.objs.size (I.hok.fresh (Nat.le_succ _)) (I.hok.fresh (Nat.le_refl _)) (Nat.ne_of_lt (Nat.lt_succ_self _))
  have I2 := Inv.made (C := C) I
  have r2 : Vals (V.ref (s.heap.objs.size + 1) :: (vs ++ dvs)) (Value.ref (s.heap.objs.size + 1) :: (us ++ ds)) := .cons rfl (r.append hd)
  have hl : (Value.ref (s.heap.objs.size + 1) :: us ++ ds).length = ps.length := by
    have e := r2.length
    rw [F.len _ _ _ _ hq] at e
    exact e.symm
  refine wpAny_call (make_map (f := f) I.kIn M.makes M.init (beq_iff_eq.mp M.fn) (codeAny_mono (F.run _ X.stack _ _ ⟨Value.ref (s.heap.objs.size + 1) :: us, []⟩ (Value.ref (s.heap.objs.size + 1) :: (us ++ ds)) _ _ E (hr.make C us []) (under_guards hg)
    (I2.env0.make C us []) (hb _ (Value.ref (s.heap.objs.size + 1) :: us) I2.kIn hl) r2 hq) fun r s' hq' => ?_))
  match r, hq' with
  | .error e, hq' => exact hx pins σ _ _ e s' I2 hq'
  | .ok (.ret u), hq' =>
    obtain ⟨v, H', I3, rv, ev, q3⟩ := I2.after hq'
    subst ev
    exact ⟨rv, ⟨V.ref (s.heap.objs.size + 1), H', I3, rfl, q3⟩⟩
  | .ok .next, hq' => exact hq'.elim
  | .ok .brk, hq' => exact hq'.elim
  | .ok .cont, hq' => exact hq'.elim
end
/-- a class of the text with an __init__ -/
structure GMk (P : Program) (w : World) (K : PySem.W.Frag) (mg : Str → Option Value) (base : Heap) (k : Nat) (c : Nat) (x : Str) (n : Nat) (m : Fn) : Prop where
  ex : ∃ f fd ps, FnG P w K mg base k f fd ps (spG K n m) ∧ Mk K (Wld.cls c) f ∧ mg x = some (.ref (Wld.cls c)) ∧ Binds K fd ps []
theorem GMk.mono {P : Program} {w : World} {K : PySem.W.Frag} {mg : Str → Option Value} {base : Heap} {j k c n : Nat} {x : Str} {m : Fn} (F : GMk P w K mg base j c x n m) (h : j ≤ k) : GMk P w K mg base k c x n m := by
  obtain ⟨f, fd, ps, ok, hm⟩ := F.ex
  exact ⟨⟨f, fd, ps, ok.mono h, hm⟩⟩
def mMake (c n : Nat) (f : Fn) (ms : M (List R)) : M R := bnd ms fun rs e S => if rs.length + 1 = n then match toArgs rs e with
    | some sls => match f (.d (.ref S.length) :: sls) (S ++ [.ins c [] []]) with
      | some (.d .non, S') => some (.d (.ref S.length), e, S')
      | _ => none
    | none => none
  else none
section
variable {X : Cx} {k n c : Nat} {f : Fn} {x : Str} {ex : Expr} {es : List Expr} {ms : M (List R)} {p pos : Pos}
end
/-! ### defs with keyword-only defaults -/
structure GFD (P : Program) (w : World) (K : PySem.W.Frag) (mg : Str → Option Value) (base : Heap) (k : Nat) (x : Str) (n : Nat) (dd : List D) (m : Fn) : Prop where
  ex : ∃ f fd ps ds dvs, FnG P w K mg base k f fd ps (spG K n m) ∧ mg x = some (.ref f) ∧ PySem.W.keepIn K (.ref f) = true ∧ Binds K fd ps ds ∧ Vals dvs ds ∧ ∀ H ι, RDs K H ι dvs dd
theorem GFD.mono {P : Program} {w : World} {K : PySem.W.Frag} {mg : Str → Option Value} {base : Heap} {j k n : Nat} {x : Str} {dd : List D} {m : Fn} (F : GFD P w K mg base j x n dd m) (h : j ≤ k) : GFD P w K mg base k x n dd m := by
  obtain ⟨f, fd, ps, ds, dvs, ok, hm⟩ := F.ex
  exact ⟨⟨f, fd, ps, ds, dvs, ok.mono h, hm⟩⟩
/-- n values, then keywords named ks -/
structure GFK (P : Program) (w : World) (K : PySem.W.Frag) (mg : Str → Option Value) (base : Heap) (k : Nat) (x : Str) (n : Nat) (ks : List Str) (m : Fn) : Prop where
  ex : ∃ f fd ps g gV, FnG P w K mg base k f fd ps (spG K (n + ks.length) m) ∧ mg x = some (.ref f) ∧ PySem.W.keepIn K (.ref f) = true ∧ KBn K fd ps n ks g gV ∧ ∀ vs zs, gV vs zs = vs ++ zs
theorem GFK.mono {P : Program} {w : World} {K : PySem.W.Frag} {mg : Str → Option Value} {base : Heap} {j k n : Nat} {x : Str} {ks : List Str} {m : Fn} (F : GFK P w K mg base j x n ks m) (h : j ≤ k) : GFK P w K mg base k x n ks m := by
  obtain ⟨f, fd, ps, g, gV, ok, hm⟩ := F.ex
  exact ⟨⟨f, fd, ps, g, gV, ok.mono h, hm⟩⟩
def mCallD (n : Nat) (dd : List D) (f : Fn) (ms : M (List R)) : M R := mCall n f (bnd ms fun rs => pur (rs ++ dd.map R.d))
def mCallK (n : Nat) (f : Fn) (ms mk : M (List R)) : M R := mCall n f (bnd ms fun rs => bnd mk fun zs => pur (rs ++ zs))
section
variable {X : Cx} {k n : Nat} {f : Fn} {x : Str} {dd : List D} {ks : List Str} {ex : Expr} {es : List Expr} {kws : List Keyword} {ms mk : M (List R)} {p pos : Pos}
abbrev GK (X : Cx) (kws : List Keyword) (m : M (List R)) : Prop := PK X kws (tGA X.K m)
theorem PK.imp {kws : List Keyword} {t t' : TA} (h : PK X kws t) (w : ∀ σ H Q, t' σ H Q → t σ H Q) : PK X kws t' := ⟨fun pos pins s σ H Q I q => h.run pos pins s σ H Q I (w σ H Q q)⟩
theorem gk_nil : GK X [] mNil := PK.imp pk_nil fun σ H Q q => by
  obtain ⟨ι, e, S, r, e', S', R, hm, q⟩ := q
  cases hm
  exact q [] H ι R .refl .nil
theorem gk_cons {nm : Option Str} {kpos : Pos} {ma : M R} (ha : GE X ex ma) (hr : GK X kws ms) : GK X (⟨nm, ex, kpos⟩ :: kws) (mCons ma ms) := PK.imp (pk_cons ha hr) fun σ H Q q => by
  obtain ⟨ι, e, S, r, e', S', R, hm, q⟩ := q
  obtain ⟨x, e1, S1, h1, hm⟩ := bnd_eq hm
  obtain ⟨xs, e2, S2, h2, hm⟩ := bnd_eq hm
  cases hm
  exact ⟨ι, e, S, x, e1, S1, R, h1, fun v H1 ι1 R1 P1 r1 _ => ⟨ι1, e1, S1, xs, _, _, R1, h2, fun vs H2 ι2 R2 P2 r2 => q _ H2 ι2 R2 (P1.trans P2) (.cons (r1.post P2) r2)⟩⟩
theorem len_nil {e : En} {S : Sto} {rs : List R} {e' : En} {S' : Sto} (h : mNil e S = some (rs, e', S')) : rs.length = 0 := by cases h; rfl
theorem len_cons {a : M R} {b : M (List R)} {n : Nat} (hb : ∀ e S rs e' S', b e S = some (rs, e', S') → rs.length = n) : ∀ e S rs e' S', mCons a b e S = some (rs, e', S') → rs.length = n + 1 := fun e S rs e' S' h => by
  obtain ⟨x, e1, S1, h1, h⟩ := bnd_eq h
  obtain ⟨xs, e2, S2, h2, h⟩ := bnd_eq h
  cases h
  rw [List.length_cons, hb _ _ _ _ _ h2]
end
/-! ### texts -/
section
variable {X : Cx}
def gSplit (r : R) (rs : List R) : M R := fun e S => match r, rs with
  | .d (.str a), [.d (.str b)] => if (b.length == 0) = false ∧ a.length + 2 ≤ 1000000 then some (.new (.lst ((Txt.split a b).map .str)), e, S) else none
  | _, _ => none
theorem rds_strs {K : PySem.W.Frag} {H : Hp} {ι : List Addr} : ∀ ys : List Str, RDs K H ι (ys.map V.str) (ys.map D.str)
  | [] => .nil
  | y :: ys => .cons (.str y) (rds_strs ys)
def gIntS (r : R) : M R := fun e S => match r with
  | .d (.str x) => if x.length ≤ 640 then (PySem.intText? x).map fun n => (.d (.int n), e, S) else none
  | _ => none
end
end G

set_option Elab.async false
set_option linter.all false
set_option maxRecDepth 1000000
set_option maxHeartbeats 4000000
/-! GLM: methods and defs with defaults by their bodies; the calculus of classes. -/
namespace G
variable [Wld]
open PySem PySem.Spec PyProof.Rows L2
/-- the j-th statement of a class's body -/
def clsB (s : Stmt) (j : Nat) : Stmt := match s with
  | .ClassDef _ _ _ b _ _ _ _ _ _ _ => b.getD j (.Pass ⟨0, 0, 0, 0⟩)
  | _ => .Pass ⟨0, 0, 0, 0⟩
structure DM (K : PySem.W.Frag) (c : Nat) (x qual : Str) (st : Stmt) (ps : List Str) (dd : List D) : Prop where
  ex : ∃ f fd ds dvs, Fun K x qual st f fd ∧ Meth K (Wld.cls c) x f ∧ Binds K fd ps ds ∧ Vals dvs ds ∧ ∀ H ι, RDs K H ι dvs dd
structure DI (K : PySem.W.Frag) (mg : Str → Option Value) (c : Nat) (x qual : Str) (st : Stmt) (ps : List Str) : Prop where
  ex : ∃ f fd, Fun K "__init__" qual st f fd ∧ Mk K (Wld.cls c) f ∧ mg x = some (.ref (Wld.cls c)) ∧ Binds K fd ps []
structure DD (K : PySem.W.Frag) (mg : Str → Option Value) (x qual : Str) (st : Stmt) (ps : List Str) (dd : List D) : Prop where
  ex : ∃ f fd ds dvs, Fun K x qual st f fd ∧ mg x = some (.ref f) ∧ Binds K fd ps ds ∧ Vals dvs ds ∧ ∀ H ι, RDs K H ι dvs dd
structure DK (K : PySem.W.Frag) (mg : Str → Option Value) (x qual : Str) (st : Stmt) (ps : List Str) (n : Nat) (ks : List Str) : Prop where
  ex : ∃ f fd g gV, Fun K x qual st f fd ∧ mg x = some (.ref f) ∧ KBn K fd ps n ks g gV ∧ (∀ vs zs, gV vs zs = vs ++ zs) ∧ n + ks.length = ps.length
section
variable {P : Program} {w : World} {K : PySem.W.Frag} {mg : Str → Option Value} {base : Heap} {x qual : Str} {st : Stmt} {N ps : List Str} {k c : Nat} {dd : List D}
theorem GFM.bodyOf {body : M Fl} (D : DM K c x qual st ps dd) (Sc : FnScope N ps (defScope st))
    (h : ∀ (f : Addr) (cdv : Value) (A : Around) (outer : List PySem.Env) (s : Shared) (H : Hp) (vs : List V) (Q : VK) (E : XK), Room k (A.deeper (envOfC qual (defScope st) s.heap.objs.size f cdv)) → (A.deeper (envOfC qual (defScope st) s.heap.objs.size f cdv)).guards = some [] →
      GSs (cxOf CX0 P w K mg base N qual (defScope st) f cdv A outer s H E).nox (defBody st) body) :
    GFM P w K mg base (k + 1) c x ps.length dd (runF (N.length - ps.length) body) := by
  obtain ⟨f, fd, ds, dvs, F, hm, hb, hv, hd⟩ := D.ex
  exact ⟨⟨f, fd, ps, ds, dvs, fn_ok F Sc (h f), hm, hb, hv, hd⟩⟩
theorem GMk.bodyOf {body : M Fl} (D : DI K mg c x qual st ps) (Sc : FnScope N ps (defScope st))
    (h : ∀ (f : Addr) (cdv : Value) (A : Around) (outer : List PySem.Env) (s : Shared) (H : Hp) (vs : List V) (Q : VK) (E : XK), Room k (A.deeper (envOfC qual (defScope st) s.heap.objs.size f cdv)) → (A.deeper (envOfC qual (defScope st) s.heap.objs.size f cdv)).guards = some [] →
      GSs (cxOf CX0 P w K mg base N qual (defScope st) f cdv A outer s H E).nox (defBody st) body) :
    GMk P w K mg base (k + 1) c x ps.length (runF (N.length - ps.length) body) := by
  obtain ⟨f, fd, F, hm, hg, hb⟩ := D.ex
  exact ⟨⟨f, fd, ps, fn_ok F Sc (h f), hm, hg, hb⟩⟩
theorem GFD.bodyOf {body : M Fl} (D : DD K mg x qual st ps dd) (Sc : FnScope N ps (defScope st))
    (h : ∀ (f : Addr) (cdv : Value) (A : Around) (outer : List PySem.Env) (s : Shared) (H : Hp) (vs : List V) (Q : VK) (E : XK), Room k (A.deeper (envOfC qual (defScope st) s.heap.objs.size f cdv)) → (A.deeper (envOfC qual (defScope st) s.heap.objs.size f cdv)).guards = some [] →
      GSs (cxOf CX0 P w K mg base N qual (defScope st) f cdv A outer s H E).nox (defBody st) body) :
    GFD P w K mg base (k + 1) x ps.length dd (runF (N.length - ps.length) body) := by
  obtain ⟨f, fd, ds, dvs, F, hm, hb, hv, hd⟩ := D.ex
  exact ⟨⟨f, fd, ps, ds, dvs, fn_ok F Sc (h f), hm, F.kp, hb, hv, hd⟩⟩
theorem GFK.bodyOf {n : Nat} {ks : List Str} {body : M Fl} (D : DK K mg x qual st ps n ks) (Sc : FnScope N ps (defScope st))
    (h : ∀ (f : Addr) (cdv : Value) (A : Around) (outer : List PySem.Env) (s : Shared) (H : Hp) (vs : List V) (Q : VK) (E : XK), Room k (A.deeper (envOfC qual (defScope st) s.heap.objs.size f cdv)) → (A.deeper (envOfC qual (defScope st) s.heap.objs.size f cdv)).guards = some [] →
      GSs (cxOf CX0 P w K mg base N qual (defScope st) f cdv A outer s H E).nox (defBody st) body) :
    GFK P w K mg base (k + 1) x n ks (runF (N.length - ps.length) body) := by
  obtain ⟨f, fd, g, gV, F, hm, hb, hv, hd⟩ := D.ex
  exact ⟨⟨f, fd, ps, g, gV, by rw [hd]; exact fn_ok F Sc (h f), hm, F.kp, hb, hv⟩⟩
theorem GFM.recOf {body : Fn → M Fl} (D : DM K c x qual st ps dd) (Sc : FnScope N ps (defScope st))
    (h : ∀ (n : Nat) (self : Fn), GFM P w K mg base (k + n + 1) c x ps.length dd self → ∀ (f : Addr) (cdv : Value) (A : Around) (outer : List PySem.Env) (s : Shared) (H : Hp) (vs : List V) (Q : VK) (E : XK), Room (k + n + 1) (A.deeper (envOfC qual (defScope st) s.heap.objs.size f cdv)) → (A.deeper (envOfC qual (defScope st) s.heap.objs.size f cdv)).guards = some [] →
      GSs (cxOf CX0 P w K mg base N qual (defScope st) f cdv A outer s H E).nox (defBody st) (body self)) :
    ∀ n, GFM P w K mg base (k + n + 1) c x ps.length dd (recF (N.length - ps.length) body n) := by
  obtain ⟨f, fd, ds, dvs, F, hm, hb, hv, hd⟩ := D.ex
  intro n
  induction n with
  | zero => exact ⟨⟨f, fd, ps, ds, dvs, fn_ok (N := N) (body := stk) F Sc fun cdv A outer s H vs Q E hr hgd => gss_never, hm, hb, hv, hd⟩⟩
  | succ n ih => exact ⟨⟨f, fd, ps, ds, dvs, fn_ok F Sc (h n _ ih f), hm, hb, hv, hd⟩⟩
theorem GFM.recOfS (s : Nat) {body : Fn → M Fl} (D : DM K c x qual st ps dd) (Sc : FnScope N ps (defScope st))
    (h : ∀ (n : Nat) (self : Fn), GFM P w K mg base (k + (s + 1) * n + 1) c x ps.length dd self → ∀ (f : Addr) (cdv : Value) (A : Around) (outer : List PySem.Env) (sh : Shared) (H : Hp) (vs : List V) (Q : VK) (E : XK), Room (k + (s + 1) * n + s + 1) (A.deeper (envOfC qual (defScope st) sh.heap.objs.size f cdv)) → (A.deeper (envOfC qual (defScope st) sh.heap.objs.size f cdv)).guards = some [] →
      GSs (cxOf CX0 P w K mg base N qual (defScope st) f cdv A outer sh H E).nox (defBody st) (body self)) :
    ∀ n, GFM P w K mg base (k + (s + 1) * n + 1) c x ps.length dd (recF (N.length - ps.length) body n) := by
  obtain ⟨f, fd, ds, dvs, F, hm, hb, hv, hd⟩ := D.ex
  intro n
  induction n with
  | zero => exact ⟨⟨f, fd, ps, ds, dvs, fn_ok (N := N) (body := stk) F Sc fun cdv A outer s H vs Q E hr hgd => gss_never, hm, hb, hv, hd⟩⟩
  | succ n ih =>
    have := FnG.mono (fn_ok F Sc (h n _ ih f)) (show k + (s + 1) * n + s + 1 + 1 ≤ k + (s + 1) * (n + 1) + 1 by rw [Nat.mul_add]; omega)
    exact ⟨⟨f, fd, ps, ds, dvs, this, hm, hb, hv, hd⟩⟩
/-! ### facts -/
theorem DM.mk' {f : Addr} {fd : FuncData} (F : Fun K x qual st f fd) (h1 : PySem.W.findIn K (.ref (Wld.cls c)) x = some (some (.ref f))) (h2 : PySem.W.isFn K (.ref f) = true) (hb : Fun K x qual st f fd → Binds K fd ps []) : DM K c x qual st ps [] :=
  ⟨⟨f, fd, [], [], F, ⟨h1, h2, F.kp⟩, hb F, .nil, fun _ _ => .nil⟩⟩
theorem DI.mk' {f : Addr} {fd : FuncData} (F : Fun K "__init__" qual st f fd) (M : Mk K (Wld.cls c) f) (hm : mg x = some (.ref (Wld.cls c))) (hb : Fun K "__init__" qual st f fd → Binds K fd ps []) : DI K mg c x qual st ps := ⟨⟨f, fd, F, M, hm, hb F⟩⟩
/-- keyword-only defaults that are numbers -/
theorem fund_mk {f : Addr} {oc : Value} {od an : Option Addr} {osl : Array (Option Value)} {doc pm cdv ct : Value} {Dk : Addr} {y : Str} {i : Int} {t : Tok} (l : K.lookup f = some ⟨oc, od, .func (PySem.W.fnOf x qual (defArgs st) (defBody st) (defScope st) .none (.ref Dk) doc pm an cdv ct), osl⟩)
    (cd : PySem.W.codeIn K cdv qual = true) (kp : PySem.W.keepIn K (.ref f) = true) (hn : PySem.W.nsIn K Dk y = some (some (.int i t))) :
    FunD K x qual (defArgs st) (defBody st) (defScope st) [] [(y, .int i)] f (PySem.W.fnOf x qual (defArgs st) (defBody st) (defScope st) .none (.ref Dk) doc pm an cdv ct) :=
  ⟨⟨oc, od, .none, .ref Dk, doc, pm, an, cdv, ct, osl, rfl, l, cd, .inl ⟨rfl, rfl⟩, .inr ⟨Dk, rfl, fun q hq => by
    rcases List.mem_cons.mp hq with h | h
    · subst h
      exact ⟨_, hn, ⟨_, rfl⟩⟩
    · cases h⟩⟩, kp⟩
theorem DD.mk' {f : Addr} {fd : FuncData} {y : Str} {i : Int} (n : Nat) (F : FunD K x qual (defArgs st) (defBody st) (defScope st) [] [(y, .int i)] f fd) (Fu : Fun K x qual st f fd) (hm : mg x = some (.ref f)) (hn : n + 1 = ps.length)
    (h : ∀ (D : Addr) (doc pm : Value) (an : Option Addr) (cdv ct : Value) (us ks : List Value), us.length = n → ks.length = 1 → KwChain D ([y].zip ks) (bindArgs (PySem.W.fnOf x qual (defArgs st) (defBody st) (defScope st) .none (.ref D) doc pm an cdv ct) ⟨us, []⟩) (ps.zip (us ++ ks))) : DD K mg x qual st ps [.int i] := by
  obtain ⟨ds, hv, hb⟩ := F.binds0 (ps := ps) n (by simp) (by simpa using hn) (fun D doc pm an cdv ct us ks h1 h2 => h D doc pm an cdv ct us ks h1 (by simpa using h2))
  exact ⟨⟨f, fd, ds, _, Fu, hm, hb, hv, fun _ _ => .cons (.int i) .nil⟩⟩
theorem DK.mk' {f : Addr} {fd : FuncData} {y : Str} {i : Int} (n : Nat) (F : FunD K x qual (defArgs st) (defBody st) (defScope st) [] [(y, .int i)] f fd) (Fu : Fun K x qual st f fd) (hm : mg x = some (.ref f)) (hn : n + 1 = ps.length)
    (h : ∀ (D : Addr) (doc pm : Value) (an : Option Addr) (cdv ct : Value) (us ws : List Value), us.length = n → ws.length = 1 → bindArgs (PySem.W.fnOf x qual (defArgs st) (defBody st) (defScope st) .none (.ref D) doc pm an cdv ct) ⟨us, [y].zip ws⟩ = pure (ps.zip (us ++ ws))) : DK K mg x qual st ps n [y] := by
  obtain ⟨mv, hb⟩ := F.kbinds0 (ps := ps) n [y] [] (fun us _ ws => us ++ ws) (by simp) (fun q hq => by cases hq) (fun h1 _ h3 => h1.append h3) (fun D doc pm an cdv ct us mv ws h1 _ h3 => h D doc pm an cdv ct us ws h1 (by simpa using h3))
  exact ⟨⟨f, fd, _, _, Fu, hm, hb, fun _ _ => rfl, by simpa using hn⟩⟩
end
/-! ### the calculus -/
section
variable {e : En} {S : Sto}
theorem wp_fld {c : Nat} {f : Str} {m : M R} {Q : R → En → Sto → Prop} : Wp (mFld c f m) e S Q ↔ Wp m e S fun r e1 S1 => ∃ n, r = .d (.ref n) ∧ ∃ ns ds, S1[n]? = some (.ins c ns ds) ∧ ∃ d, (ns.zip ds).lookup f = some d ∧ Q (.d d) e1 S1 := by
  constructor
  · rintro ⟨a, e', S', h, q⟩
    obtain ⟨r, e1, S1, h1, hm⟩ := bnd_eq h
    refine ⟨r, e1, S1, h1, ?_⟩
    split at hm
    · rename_i n ns ds hi
      obtain ⟨d, hd, hz⟩ := Option.map_eq_some_iff.mp hm
      cases hz
      obtain ⟨h2, h3⟩ := insOf_eq hi
      exact ⟨n, h2, ns, ds, h3, d, hd, q⟩
    · cases hm
  · rintro ⟨r, e1, S1, h1, n, rfl, ns, ds, h3, d, hd, q⟩
    refine ⟨_, e1, S1, ?_, q⟩
    unfold mFld bnd
    rw [h1]
    simp only [insOf, h3, if_true, hd, Option.map_some]
theorem wp_setF {c : Nat} {f : Str} {m mo : M R} {Q : Fl → En → Sto → Prop} : Wp (mSetF c f m mo) e S Q ↔ Wp m e S fun r e1 S1 => Wp mo e1 S1 fun ro e2 S2 => ∃ d, r = .d d ∧ ∃ n, ro = .d (.ref n) ∧ ∃ ns ds, S2[n]? = some (.ins c ns ds) ∧ (f ∉ ns ∧ ns.length < 1000) ∧ Q .nx e2 (S2.set n (.ins c (ns ++ [f]) (ds ++ [d]))) := by
  constructor
  · rintro ⟨a, e', S', h, q⟩
    obtain ⟨r, e1, S1, h1, hm⟩ := bnd_eq h
    obtain ⟨ro, e2, S2, h2, hm⟩ := bnd_eq hm
    refine ⟨r, e1, S1, h1, ro, e2, S2, h2, ?_⟩
    cases r with
    | d d =>
      dsimp only at hm
      split at hm
      · rename_i n ns ds hi
        split at hm
        · rename_i hf
          cases hm
          obtain ⟨h3, h4⟩ := insOf_eq hi
          exact ⟨d, rfl, n, h3, ns, ds, h4, hf, q⟩
        · cases hm
      · cases hm
    | _ => cases hm
  · rintro ⟨r, e1, S1, h1, ro, e2, S2, h2, d, rfl, n, rfl, ns, ds, h3, hf, q⟩
    refine ⟨_, e2, _, ?_, q⟩
    unfold mSetF bnd
    rw [h1]
    simp only [h2, insOf, h3, if_true, if_pos hf]
theorem wp_meth {c n : Nat} {x : Str} {dd : List D} {f : Fn} {mo : M R} {ms : M (List R)} {Q : R → En → Sto → Prop} : Wp (mMeth c x n dd f mo ms) e S Q ↔ Wp mo e S fun r e1 S1 => ∃ i, r = .d (.ref i) ∧ ∃ ns ds, S1[i]? = some (.ins c ns ds) ∧ x ∉ ns ∧
    Wp ms e1 S1 fun rs e2 S2 => (G.R.d (.ref i) :: (rs ++ dd.map G.R.d)).length = n ∧ ∃ sls, toArgs (.d (.ref i) :: (rs ++ dd.map G.R.d)) e2 = some sls ∧ Fp f sls S2 fun r S3 => Q r.r e2 S3 := by
  constructor
  · rintro ⟨a, e', S', h, q⟩
    obtain ⟨r, e1, S1, h1, hm⟩ := bnd_eq h
    refine ⟨r, e1, S1, h1, ?_⟩
    split at hm
    · rename_i n' ns ds hi
      split at hm
      · cases hm
      · rename_i hx
        obtain ⟨rfl, h3⟩ := insOf_eq hi
        refine ⟨n', rfl, ns, ds, h3, hx, ?_⟩
        have h5 : Wp (mCall n f (bnd ms fun rs => pur (.d (.ref n') :: (rs ++ dd.map G.R.d)))) e1 S1 Q := ⟨_, _, _, hm, q⟩
        rw [wp_mCall, wp_bnd] at h5
        simpa only [wp_pur] using h5
    · cases hm
  · rintro ⟨r, e1, S1, h1, n', rfl, ns, ds, h3, hx, h4⟩
    have h5 : Wp (mCall n f (bnd ms fun rs => pur (.d (.ref n') :: (rs ++ dd.map G.R.d)))) e1 S1 Q := by
      rw [wp_mCall, wp_bnd]
      simpa only [wp_pur] using h4
    obtain ⟨a, e2, S2, h6, q⟩ := h5
    refine ⟨a, e2, S2, ?_, q⟩
    unfold mMeth bnd
    rw [h1]
    simp only [insOf, h3, if_true, if_neg hx]
    exact h6
theorem wp_make {c n : Nat} {f : Fn} {ms : M (List R)} {Q : R → En → Sto → Prop} : Wp (mMake c n f ms) e S Q ↔ Wp ms e S fun rs e1 S1 => rs.length + 1 = n ∧ ∃ sls, toArgs rs e1 = some sls ∧ Fp f (.d (.ref S1.length) :: sls) (S1 ++ [.ins c [] []]) fun r S2 => r = .d .non ∧ Q (.d (.ref S1.length)) e1 S2 := by
  constructor
  · rintro ⟨a, e', S', h, q⟩
    obtain ⟨rs, e1, S1, h1, hm⟩ := bnd_eq h
    refine ⟨rs, e1, S1, h1, ?_⟩
    split at hm
    · rename_i hn
      split at hm
      · rename_i sls hs
        split at hm
        · rename_i S2 hf
          cases hm
          exact ⟨hn, sls, hs, _, _, hf, rfl, q⟩
        · cases hm
      · cases hm
    · cases hm
  · rintro ⟨rs, e1, S1, h1, hn, sls, hs, r, S2, hf, rfl, q⟩
    refine ⟨_, e1, S2, ?_, q⟩
    unfold mMake bnd
    rw [h1]
    simp only [if_pos hn, hs, hf]
end
end G

set_option Elab.async false
set_option linter.all false
set_option maxRecDepth 1000000
set_option maxHeartbeats 4000000
/-! GLN: {e: e'} with a text as key; d.update(a new dict). -/
namespace G
variable [Wld]
open PySem PySem.Spec PyProof.Rows L2
def mD1S (mk m : M R) : M R := bnd mk fun k => bnd m fun r => match k, r with
  | .d (.str k), .d x => pur (.new (.dct [(.inr k, x)]))
  | _, _ => stk
/-- d.update(e) over the heap -/
def tUpdD (td ty : TE) : TE := fun σ H Q => td σ H fun x H1 => ∃ a, x = .ref a ∧ L2.IsD H1 a ∧ ty σ H1 fun y H2 => ∃ b kvs more, y = .ref b ∧ a ≠ b ∧ H2 a = some (.dK kvs) ∧ H2 b = some (.dK more) ∧ kvs.length + more.length ≤ sizeLine ∧ Q .non (upd H2 a (.dK (mergeK kvs more)))
def gUpd (rx ry : R) : M R := fun e S => match ry with
  | .new (.dct more) => (match look rx e S with
    | some (.dct kvs) => if isW rx = true ∧ kvs.length + more.length ≤ 1000000 then some (.d .non, putE rx (.dct (mergeD kvs more)) e, putS rx (.dct (mergeD kvs more)) S) else none
    | _ => none)
  | _ => none
def mUpd (mo ma : M R) : M R := bnd mo fun x => bnd (chkD x) fun _ => bnd ma fun y => gUpd x y
section
variable {X : Cx} {pos apos cpos : Pos} {td ty : TE} {o e : Expr} {mo ma mk m : M R}
end
open LamX in
omit [Wld] in
/-- as walk_GT, with the classes' places -/
theorem walk_GTC {l : PySem.W.OpenLaw} {n k : Nat} {q : Program} {loose : List Str} {XP : (Str → Option Value) → Heap → Prop} {YP : World → Heap → Prop} {d : DefRec} {K : Params → PySem.W.Frag} {x : Str} {ts : List Addr} (tq : Nat → Str) (lm : Nat → Lm) (cl : Nat → Addr)
    (hn : l.most = some n) (hn2 : n ≤ sizeLine) (hdf : d.params.defaults = []) (hr : Room k callerA) (hY : ∀ (w : World) (h : Heap), YP w h → (K w.params).In h) (hT : ∀ (w : World) (h : Heap), YP w h → ∀ P ∈ ts, h.get? P = some (PySem.W.tabObj #[])) (nd : ts.Nodup)
    (F : ∀ (w : World) (mg : Str → Option Value) (fa : Addr) (h : Heap) (i : Wld), w = i.w → (∀ (n : Nat) (P : Addr), ts[n]? = some P → P = i.tb n) → i.tq = tq → i.lm = lm → i.cls = cl → (K w.params).In h → h.Ns mainGlobals mg → mg d.name = some (.ref fa) →
      ∃ (cs : List Addr) (f : Fn) (fd : FuncData), (∀ P ∈ ts, (K w.params).lookup P = none) ∧ cs.length = ts.length ∧ (∀ (i : Nat) (c P : Addr), cs[i]? = some c → ts[i]? = some P → PySem.W.codeHdIn (K w.params) c P = true) ∧
        (∀ (s : Shared) (u : Value), BindsTo s fd ⟨[u], []⟩ [(x, u)]) ∧ (∀ base : Heap, (K w.params).In base → base.Ns mainGlobals mg → TBs base mg cs ts → FnG l.prog w (K w.params) mg base k fa fd [x] (spG (K w.params) 1 f)) ∧
        ∀ ns : List Int, ns.length ≤ n → (∀ z ∈ ns, Builtin.Int.intBits z ≤ 1048576) → ∃ S', f [.d (.lst (ns.map D.int))] ((List.range ts.length).map O.tab) = some (.d (.bl true), S')) :
    PySem.W.WalkO q loose XP YP l.row.toRowW d [] (fun f vs => PySem.call f vs) :=
  Att.attach_callB hn hdf fun w s₀ s₁ mg mb fa o pm cd doc a vs ns G Y ho hd hcd hmg hobj hints hlen hbits hg =>
    let i : Wld := ⟨w, fun n => ts.getD n 0, tq, lm, cl⟩
    have hw : ∀ (n : Nat) (P : Addr), ts[n]? = some P → P = i.tb n := fun n P h => by show P = ts.getD n 0; rw [List.getD_eq_getElem?_getD, h]; rfl
    let ⟨cs, _, fd, hn, hl, hc, hb, hF, hf⟩ := F w mg fa _ i rfl hw rfl rfl rfl (hY w _ Y) G.T.g hmg
    let ⟨_, h⟩ := hf ns hlen hbits
    law_callGT (hY w _ Y) G.T.g G.T.b G.T.builtins G.T.nolimit hg (hT w _ Y) hn hl nd (fun i c P h1 h2 => PySem.W.codeHd_of_K (hY w _ Y) (hc i c P h1 h2)) hw G.T.bmain hobj hints (Nat.le_trans hlen hn2) hr hF hb h
end G

set_option Elab.async false
set_option linter.all false
set_option maxRecDepth 1000000
set_option maxHeartbeats 4000000
/-! GLO: xs.extend(a tuple); comprehensions over what the store holds. -/
namespace G
variable [Wld]
open PySem PySem.Spec PyProof.Rows L2
section
variable {X : Cx}
def rExtendT (K : PySem.W.Frag) : V → List V → Hp → VK → Prop := fun x vs H Q => ∃ l b xs zs, x = .ref l ∧ vs = [.ref b] ∧ H l = some (.lst xs) ∧ SqT K H b zs ∧ xs.length + zs.length ≤ sizeLine ∧ Q .non (upd H l (.lst (xs ++ zs)))
def gExtendT (r : R) (rs : List R) : M R := match rs with
  | [.d (.tup zs)] => wrL r fun ds => if ds.length + zs.length ≤ 1000000 then some (.d .non, ds ++ zs) else none
  | _ => stk
end
/-- len of a dict -/
def gLenD (r : R) : M R := fun e S => match look r e S with
  | some (.dct kvs) => if notDic r = true then some (.d (.int (kvs.length : Nat)), e, S) else none
  | _ => none
end G

set_option Elab.async false
set_option linter.all false
set_option maxRecDepth 1000000
set_option maxHeartbeats 4000000
/-! GLP: for x in d.values(), d a dict of the store that is not locked: while the loop walks it stays as it is. -/
namespace G
variable [Wld]
open PySem PySem.Spec PyProof.Rows L2
abbrev kxO (o : PySem.Obj) (ws : List (Key × V)) : HO := .frz o (.frz o (.dK ws))
section
variable {X : Cx} {pins : List (Addr × PySem.Obj)} {σ : SV} {H : Hp} {s : Shared} {d : Addr} {o : PySem.Obj}
/-- back: the dict may change again -/
theorem Inv.unpin {ws : List (Key × V)} (I : Inv X pins σ H s) (h : H d = some (kxO o ws)) (h0 : ∀ q u, X.H_0 d ≠ some (.frz q u)) : Inv X pins σ (upd H d (.dK ws)) s := by
  obtain ⟨hd, hd2, ok⟩ := I.hok d _ h
  have nown : ∀ b y, H b = some (.own y) → b ≠ d := fun b y e z => by subst z; rw [h] at e; cases e
  have ntup : ∀ b y, H b = some (.tup y) → b ≠ d := fun b y e z => by subst z; rw [h] at e; cases e
  have ntbl : ∀ b y, H b = some (.tbl y) → b ≠ d := fun b y e z => by subst z; rw [h] at e; cases e
  have nnon : ∀ b, H b = none → b ≠ d := fun b e z => by subst z; rw [h] at e; cases e
  refine ⟨I.ok, I.os, I.bare, ⟨I.base.keep, I.base.slot, fun b q e n hx => ?_, I.base.there, fun b xs e => ?_, fun b q xs e => ?_, fun b ps e => ?_⟩, I.loc, I.cell, ?_, fun x c e => ?_, fun p hp => ?_, fun b q e => ?_, I.len⟩
  · have z := I.base.free b q e n hx
    rw [upd_ne (nnon b z)]; exact z
  · have z := I.base.tups b xs e
    rw [upd_ne (ntup b _ z)]; exact z
  · have z := I.base.frzs b q xs e
    rw [upd_ne (fun (y : b = d) => h0 q xs (y ▸ e))]; exact z
  · obtain ⟨m, z⟩ := I.base.tbls b ps e
    exact ⟨m, by rw [upd_ne (ntbl b _ z)]; exact z⟩
  · rw [upd_ne (nnon _ I.free)]; exact I.free
  · rw [upd_ne (nnon _ (I.freeC x c e))]; exact I.freeC x c e
  · obtain ⟨e, n, ne, nf, dd⟩ := I.pin p hp
    exact ⟨e, by rw [upd_ne (nnon _ n)]; exact n, ne, nf, dd⟩
  · by_cases hb : b = d
    · subst hb
      rw [upd_same] at e; cases e
      exact ok
    · rw [upd_ne hb] at e
      exact (I.hok b q e).stay (fun c v _ k => k) (fun c k => by rw [upd_ne (nown c b k)]; exact k) fun c xs k => by rw [upd_ne (ntup c xs k)]; exact k
/-- d.values(), d as it stands -/
def Itx (d : Addr) (o : PySem.Obj) (kvs : List (Key × V)) : It :=
  ⟨fun i H => H d = some (kxO o kvs) ∧ i < kvs.length, fun i H x H' => H' = H ∧ ∃ k, kvs[i]? = some (k, x), fun i H => H d = some (kxO o kvs) ∧ kvs.length ≤ i⟩
end
def iValsX (td : TE) : TI := fun σ H R => td σ H fun x H1 => ∃ d kvs, x = .ref d ∧ H1 d = some (.dK kvs) ∧ ∀ o, R (Itx d o kvs) (upd H1 d (kxO o kvs))
/-! ### as data -/
def srcVals (r : R) : M Src := fun e S => match r with
  | .d (.ref n) => match S[n]? with
    | some (.dct kvs) => if kvs.length ≤ 1000000 then some (⟨kvs.map (·.2), []⟩, e, S.set n (.kx kvs)) else none
    | _ => none
  | _ => none
theorem rk_get {K : PySem.W.Frag} {H : Hp} {ι : List Addr} : ∀ {ws : List (Key × V)} {kvs : List (Key × D)}, RK K H ι ws kvs → ∀ {i : Nat} {k : Key} {v : V}, ws[i]? = some (k, v) → ∃ d, kvs[i]? = some (k, d) ∧ RD K H ι v d
  | _, _, .nil, i, k, v, h => by simp at h
  | _, q :: _, .cons h1 h2, 0, k, v, h => by
    simp only [List.getElem?_cons_zero, Option.some.injEq] at h
    subst h
    exact ⟨q.2, by rw [List.getElem?_cons_zero]; rw [show k = q.1 from h1.1], h1.2⟩
  | _, _, .cons h1 h2, i + 1, k, v, h => by
    rw [List.getElem?_cons_succ] at h ⊢
    exact rk_get h2 h
end G

set_option Elab.async false
set_option linter.all false
set_option maxRecDepth 1000000
set_option maxHeartbeats 4000000
/-! GLQ: behind a loop over d.values() the dict may change again. -/
namespace G
variable [Wld]
open PySem PySem.Spec PyProof.Rows L2 LamX
/-- as Stay, but what is locked twice may be unlocked -/
structure Wu (H H' : Hp) : Prop where
  tup : ∀ a xs, H a = some (.tup xs) → H' a = some (.tup xs)
  frz : ∀ a o u, (∀ o' w, u ≠ .frz o' w) → H a = some (.frz o u) → H' a = some (.frz o u)
  exc : ∀ a C, ExcS H a C → ExcS H' a C
  cod : ∀ a q, H a = some (LamX.CodeO a q) → H' a = some (LamX.CodeO a q)
  lmu : ∀ a u, H a = some u → LmU a u → H' a = some u
section
variable {K : PySem.W.Frag} {H H' : Hp} {ι : List Addr}
theorem wu_of {a : Addr} {o : PySem.Obj} {ws : List (Key × V)} (h : H a = some (kxO o ws)) : Wu H (upd H a (.dK ws)) := by
  have ne : ∀ b u, H b = some u → (u ≠ kxO o ws) → upd H a (.dK ws) b = some u := fun b u e n => by
    rw [upd_ne (fun (z : b = a) => by subst z; rw [h] at e; exact n (Option.some.inj e).symm)]; exact e
  refine ⟨fun b xs e => ne b _ e (fun z => nomatch z), fun b o' u n e => ne b _ e fun z => ?_, fun b C e => ?_, fun b q e => ne b _ e (fun z => by unfold LamX.CodeO at z; cases z), fun b u e l => ne b _ e fun z => ?_⟩
  · cases z; exact n _ _ rfl
  · rcases e with e | ⟨dd, u, e, e2, e3⟩
    · exact .inl (ne b _ e fun z => nomatch z)
    · by_cases hd : dd = a
      · subst hd
        exact .inr ⟨dd, .dK ws, ne b _ e (fun z => nomatch z), upd_same, lmu_dK⟩
      · exact .inr ⟨dd, u, ne b _ e (fun z => nomatch z), by rw [upd_ne hd]; exact e2, e3⟩
  · subst z; exact lmu_of (u := kxO o ws) (fun _ z => nomatch z) l
theorem wu_t (s : Wu H H') {a : Addr} {xs : List V} (h : SqT K H a xs) : SqT K H' a xs := by
  rcases h with (h | ⟨o, h⟩) | h
  · exact .inl (.inl (s.tup _ _ h))
  · exact .inl (.inr ⟨o, s.frz _ _ _ (fun _ _ z => nomatch z) h⟩)
  · exact .inr h
theorem wu_l (s : Wu H H') {a : Addr} {xs : List V} (h : LF K H a xs) : LF K H' a xs := by
  rcases h with ⟨o, h⟩ | h
  · exact .inl ⟨o, s.frz _ _ _ (fun _ _ z => nomatch z) h⟩
  · exact .inr h
mutual
theorem RD.wu (s : Wu H H') : ∀ (d : D) (v : V), RD K H ι v d → RD K H' ι v d
  | .non, _, h => by cases h; exact .non
  | .bl b, _, h => by cases h; exact .bl b
  | .int b, _, h => by cases h; exact .int b
  | .str b, _, h => by cases h; exact .str b
  | .tup ds, _, h => by cases h with | tup h1 h2 => exact .tup (wu_t s h1) (RDs.wu s ds _ h2)
  | .lst ds, _, h => by cases h with | lst h1 h2 => exact .lst (wu_l s h1) (RDs.wu s ds _ h2)
  | .dic ks ds, _, h => by cases h with | dic h1 h2 h3 => exact .dic (s.frz _ _ _ (fun _ _ z => nomatch z) h1) h2 (RDs.wu s ds _ h3)
  | .ref n, _, h => by cases h with | ref h1 => exact .ref h1
  | .fn a, _, h => by cases h; exact .fn a
  | .exc C ns ds, _, h => by cases h with | exc h1 h2 h3 h4 h5 h6 => exact .exc (s.frz _ _ _ (fun _ _ z => nomatch z) h1) h2 h3 (h4.mono fun _ _ _ => s.frz _ _ _ (fun _ _ z => nomatch z)) h5 (RDs.wu s ds _ h6)
theorem RDs.wu (s : Wu H H') : ∀ (ds : List D) (vs : List V), RDs K H ι vs ds → RDs K H' ι vs ds
  | [], _, h => by cases h; exact .nil
  | d :: ds, _, h => by cases h with | cons h1 h2 => exact .cons (RD.wu s d _ h1) (RDs.wu s ds _ h2)
end
theorem RK.wu (s : Wu H H') {ws : List (Key × V)} {kvs : List (Key × D)} (h : RK K H ι ws kvs) : RK K H' ι ws kvs :=
  Paired.mapP h fun _ _ z => ⟨z.1, RD.wu s _ _ z.2⟩
theorem RO.wu (s : Wu H H') {a : Addr} {o : O} (k : ∀ u, H a = some u → H' a = some u) (h : RO K H ι a o) : RO K H' ι a o := by
  cases o with
  | tab q =>
    obtain ⟨h0, ps, h1, h2, h3⟩ := h
    exact ⟨h0, ps, k _ h1, h2, fun pos cv hc => let ⟨c, e1, e2⟩ := h3 pos cv hc; ⟨c, e1, s.cod _ _ e2⟩⟩
  | ins c ns ds => obtain ⟨dx, xs, h1, h2, h3⟩ := h; exact ⟨dx, xs, k _ h1, h2, RDs.wu s _ _ h3⟩
  | lst ds => obtain ⟨xs, h1, h2⟩ := h; exact ⟨xs, k _ h1, RDs.wu s _ _ h2⟩
  | dct kvs => obtain ⟨ws, h1, h2⟩ := h; exact ⟨ws, k _ h1, h2.wu s⟩
  | kx kvs => obtain ⟨o, ws, h1, h2⟩ := h; exact ⟨o, ws, k _ h1, h2.wu s⟩
  | kd kvs =>
    obtain ⟨o, es, ep, xs, h⟩ := h
    exact ⟨o, es, ep, xs, k _ h.at_, h.ex, h.dt, h.en, h.nd, h.sz, h.sm, h.dp, h.md, Paired.mapP h.pr fun _ _ z => ⟨z.1, z.2.1.imp (fun ⟨t, y, r, d⟩ => ⟨t, y, r, RD.wu s _ _ d⟩) id, z.2.2.1, RD.wu s _ _ z.2.2.2⟩⟩
theorem LmR.wu {v : V} {i : Nat} {cs : List D} {Z : Addr → Prop} (s : Wu H H') (h : LmR K H ι v i cs Z) : LmR K H' ι v i cs Z := by
  obtain ⟨f, c, cl, rfl, h1, h2, h3, h4, h5, h6, h7⟩ := h
  refine ⟨f, c, cl, rfl, s.lmu f _ h1 (.inl ⟨_, _, rfl⟩), s.cod _ _ h2, h3, fun y a e => ?_, h5, h6, fun j y d e1 e2 => ?_⟩
  · obtain ⟨z, o, v, e1, e2⟩ := h4 y a e
    exact ⟨z, o, v, s.lmu a _ e1 (.inr ⟨o, v, rfl, e2⟩), e2⟩
  · obtain ⟨a, o, u, v, q1, q2, q3, q4, q5⟩ := h7 j y d e1 e2
    exact ⟨a, o, u, v, q1, s.lmu a _ q2 (.inr ⟨o, _, rfl, q3⟩), q3, q4, RD.wu s _ _ q5⟩
theorem RSl.wu {v : V} {sl : Sl} (s : Wu H H') (k : ∀ a u, v = .ref a → sl.isObj → H a = some u → H' a = some u) (h : RSl K H ι v sl) : RSl K H' ι v sl := by
  cases sl with
  | d x => exact RD.wu s _ _ h
  | own o => obtain ⟨a, rfl, ro⟩ := h; exact ⟨a, rfl, ro.wu s fun u hu => k a u rfl trivial hu⟩
  | brw o => obtain ⟨a, rfl, ro⟩ := h; exact ⟨a, rfl, ro.wu s fun u hu => k a u rfl trivial hu⟩
  | lm i cs => exact LmR.wu s h
theorem Rel.unpin {σ : SV} {e : En} {S : Sto} {a : Addr} {o : PySem.Obj} {ws : List (Key × V)} {kvs : List (Key × D)} {n : Nat} (R : Rel K H ι σ e S) (hn : S[n]? = some (.kx kvs)) (ha : ι[n]? = some a) (h : H a = some (kxO o ws)) (rk : RK K H ι ws kvs) :
    Rel K (upd H a (.dK ws)) ι σ e (S.set n (.dct kvs)) := by
  have st := wu_of h
  have hlt := (List.getElem?_eq_some_iff.mp hn).1
  have hι : a ∈ ι := List.mem_of_getElem? ha
  refine ⟨R.len, fun i s he => ?_, by rw [List.length_set]; exact R.ilen, fun m o' b h1 h2 => ?_, R.nd, R.own, R.brw⟩
  · obtain ⟨w, hw, hs⟩ := R.sl i s he
    refine ⟨w, hw, hs.wu st fun b x hb hob hx => ?_⟩
    subst hb
    have := R.slot_ne he hob hw
    rw [upd_ne (fun (z : b = a) => this (z ▸ hι))]
    exact hx
  · by_cases hm : m = n
    · subst hm
      rw [List.getElem?_set_self hlt] at h1
      cases h1
      rw [ha] at h2; cases h2
      exact ⟨ws, upd_same, rk.wu st⟩
    · rw [List.getElem?_set_ne (Ne.symm hm)] at h1
      refine (R.st m o' b h1 h2).wu st fun x hx => ?_
      rw [upd_ne (fun (z : b = a) => hm (nodup_at R.nd (z ▸ h2) ha))]
      exact hx
end
/-- the statement, in which the dict at sel is walked -/
def mUnpin (sel : M R) (mf : M Fl) : M Fl := fun e S => match sel e S with
  | some (.d (.ref n), _, _) => match S[n]? with
    | some (.dct _) => match mf e S with
      | some (.nx, e', S') => match S'[n]? with
        | some (.kx kvs) => some (.nx, e', S'.set n (.dct kvs))
        | _ => none
      | _ => none
    | _ => none
  | _ => none
noncomputable def mForV (t : Tgt) (m : M R) (body : M Fl) : M Fl := mUnpin m (mFor t (bnd m srcVals) body)
end G

set_option Elab.async false
set_option linter.all false
set_option maxRecDepth 1000000
set_option maxHeartbeats 4000000
/-! GLR: zip of three, lists and tuples in any mix. -/
namespace G
variable [Wld]
open PySem PySem.Spec PyProof PyProof.Rows L2
def ItzX3 (k1 k2 k3 : Bool) (K : PySem.W.Frag) (a b c : Addr) : It :=
  ⟨fun i H => ∃ (xs ys us : List V) (x y u : V), SqX k1 K H a xs ∧ SqX k2 K H b ys ∧ SqX k3 K H c us ∧ xs[i]? = some x ∧ ys[i]? = some y ∧ us[i]? = some u,
    fun i H v H' => ∃ T x y u, v = .ref T ∧ H T = none ∧ H' = upd H T (.tup [x, y, u]) ∧ (∀ xs, SqX k1 K H a xs → xs[i]? = some x) ∧ (∀ ys, SqX k2 K H b ys → ys[i]? = some y) ∧ ∀ us, SqX k3 K H c us → us[i]? = some u,
    fun i H => ∃ xs ys us : List V, SqX k1 K H a xs ∧ SqX k2 K H b ys ∧ SqX k3 K H c us ∧ (xs.length ≤ i ∨ ys.length ≤ i ∨ us.length ≤ i)⟩
def iZipX3 (K : PySem.W.Frag) (ta : TA) : TI := fun σ H R => ta σ H fun vs H1 => ∃ a b c xs ys us k1 k2 k3, vs = [.ref a, .ref b, .ref c] ∧ SqX k1 K H1 a xs ∧ SqX k2 K H1 b ys ∧ SqX k3 K H1 c us ∧ R (ItzX3 k1 k2 k3 K a b c) H1
def zipD3 : List D → List D → List D → List D
  | x :: xs, y :: ys, u :: us => .tup [x, y, u] :: zipD3 xs ys us
  | _, _, _ => []
theorem zip3_len : ∀ (xs ys us : List D), (zipD3 xs ys us).length = min (min xs.length ys.length) us.length
  | [], _, _ => by simp [zipD3]
  | _ :: _, [], _ => by simp [zipD3]
  | _ :: _, _ :: _, [] => by simp [zipD3]
  | x :: xs, y :: ys, u :: us => by
    simp only [zipD3, List.length_cons, zip3_len xs ys us]
    omega
theorem zip3_get : ∀ {xs ys us : List D} {i : Nat} {d : D}, (zipD3 xs ys us)[i]? = some d → ∃ x y u, xs[i]? = some x ∧ ys[i]? = some y ∧ us[i]? = some u ∧ d = .tup [x, y, u]
  | [], _, _, i, d, h => by simp [zipD3] at h
  | _ :: _, [], _, i, d, h => by simp [zipD3] at h
  | _ :: _, _ :: _, [], i, d, h => by simp [zipD3] at h
  | x :: xs, y :: ys, u :: us, 0, d, h => by
    simp only [zipD3, List.getElem?_cons_zero, Option.some.injEq] at h
    exact ⟨x, y, u, rfl, rfl, rfl, h.symm⟩
  | x :: xs, y :: ys, u :: us, i + 1, d, h => by
    simp only [zipD3, List.getElem?_cons_succ] at h ⊢
    exact zip3_get h
/-- zip of three of any kind -/
def srcZipX3 (rs : List R) : M Src := fun e S => match rs with
  | [r1, r2, r3] => (match srcOf r1 e S, srcOf r2 e S, srcOf r3 e S with
    | some (s1, _, _), some (s2, _, _), some (s3, _, _) => some (⟨zipD3 s1.items s2.items s3.items, s1.ws ++ (s2.ws ++ s3.ws)⟩, e, S)
    | _, _, _ => none)
  | _ => none
section
variable {X : Cx} {a b c : Expr} {ms : M (List R)} {p pos : Pos}
end
end G

set_option Elab.async false
set_option linter.all false
set_option maxRecDepth 1000000
set_option maxHeartbeats 4000000
/-! GLS: sorted(d), d's keys all ints or all texts. -/
namespace G
variable [Wld]
open PySem PySem.Spec PyProof PyProof.Rows L2
def leI (a b : Int) : Bool := decide (a ≤ b)
def srtI (ks : List Int) : List Int := ks.mergeSort leI
def keysI : List (Key × D) → Option (List Int)
  | [] => some []
  | (.inl x, _) :: r => (keysI r).map (x :: ·)
  | (.inr _, _) :: _ => none
theorem RK.keysI {K : PySem.W.Frag} {H : Hp} {ι : List Addr} : ∀ {ws : List (Key × V)} {kvs : List (Key × D)} {ks : List Int}, RK K H ι ws kvs → G.keysI kvs = some ks → ws.map (·.1) = ks.map Sum.inl
  | _, _, _, .nil, e => by cases e; rfl
  | _, (k, d) :: kvs, ks, .cons h1 h2, e => by
    cases k with
    | inr i => cases e
    | inl x =>
      obtain ⟨cs, e1, e2⟩ := Option.map_eq_some_iff.mp (show (G.keysI kvs).map (x :: ·) = some ks from e)
      subst e2
      rw [List.map_cons, List.map_cons, RK.keysI h2 e1, h1.1]
theorem RDs.ints {K : PySem.W.Frag} {H : Hp} {ι : List Addr} : ∀ ks : List Int, RDs K H ι (ks.map V.int) (ks.map D.int)
  | [] => .nil
  | k :: ks => .cons (.int k) (RDs.ints ks)
def gSortKI (r : R) : M R := fun e S => match look r e S with
  | some (.dct kvs) => (G.keysI kvs).bind fun ks => if ks.length < 64 then some (.new (.lst ((srtI ks).map D.int)), e, S) else none
  | _ => none
variable {X : Cx}
/-- ints or texts -/
def gSortKD (r : R) : M R := fun e S => match gSortKI r e S with
  | some z => some z
  | none => gSortedK r e S
variable {e : En} {S : Sto} {Q : R → En → Sto → Prop}
end G

set_option Elab.async false
set_option linter.all false
set_option maxRecDepth 1000000
set_option maxHeartbeats 4000000
/-! GMA: dicts keyed by rows or worths: {}, d.get(k, x), d.setdefault(k, x). -/
namespace G
variable [Wld]
open PySem PySem.Spec PyProof.Rows L2
def mDnK : M R := pur (.new (.kd []))
def chkK (r : R) : M Unit := fun e S => match look r e S with
  | some (.kd _) => some ((), e, S)
  | _ => none
def asDM (r : R) : M D := fun e S => match r with
  | .d x => some (x, e, S)
  | _ => none
def gGetK (x : R) (y z : D) : M R := fun e S => match look x e S with
  | some (.kd kvs) => (rk y).bind fun k => if sameT kvs y then some (.d ((valKd kvs k).getD z), e, S) else none
  | _ => none
def gSetD (x : R) (y z : D) : M R := fun e S => match look x e S with
  | some (.kd kvs) => (rk y).bind fun k => if sameT kvs y && isW x && decide (kvs.length < 1000000) then (match valKd kvs k with
    | some d => some (.d d, e, S)
    | none => some (.d z, putE x (.kd (putKd kvs y k z)) e, putS x (.kd (putKd kvs y k z)) S)) else none
  | _ => none
/-- o.m(k, x) of such a dict -/
def mMK (g : R → D → D → M R) (mo mk mz : M R) : M R := bnd mo fun x => bnd (chkK x) fun _ => bnd (bnd mk asDM) fun y => bnd (bnd mz asDM) fun z => g x y z
theorem Pr4.val {K : PySem.W.Frag} {H : Hp} {ι : List Addr} {xs : List X4} {kvs : List (D × D)} (h : Paired (Pr4 K H ι) xs kvs) (k : NestedKey) {vz : V} {r : Value} {z : D} (rz : RD K H ι vz z) (rr : RelV vz r) :
    ∃ v, RelV v (((has4 xs k).map fun x => x.2.2.2).getD r) ∧ RD K H ι v ((valKd kvs k).getD z) := by
  rcases Pr4.find h k with ⟨z1, z2⟩ | ⟨x, d, z1, z2, _, z3, z4⟩
  · rw [z1, z2]; exact ⟨vz, rr, rz⟩
  · rw [z1, z2]; exact ⟨_, z3, z4⟩
section
variable {X : Cx} {o e f : Expr} {mo mk mz : M R} {apos cpos : Pos}
end
end G

set_option Elab.async false
set_option linter.all false
set_option maxRecDepth 1000000
set_option maxHeartbeats 4000000
/-! GMB: for k, v in d.items(), d a dict keyed by rows that is a name's own; the name is given up. -/
namespace G
variable [Wld]
open PySem PySem.Spec PyProof.Rows L2
/-- the pairs of a dict that stays as it is -/
def Itkd (a : Addr) (o : PySem.Obj) (ps : List (V × V)) : It :=
  ⟨fun i H => H a = some (exa a o) ∧ i < ps.length, fun i H x H' => ∃ T k v, ps[i]? = some (k, v) ∧ x = .ref T ∧ H T = none ∧ H' = upd H T (.tup [k, v]), fun i H => H a = some (exa a o) ∧ ps.length ≤ i⟩
theorem Rel.drop {K : PySem.W.Frag} {H : Hp} {ι : List Addr} {σ : SV} {e : En} {S : Sto} (R : Rel K H ι σ e S) (i : Nat) : Rel K H ι σ (e.set i none) S ∧ Post H ι σ e H ι σ (e.set i none) := by
  have sub : ∀ {j : Nat} {s : Sl}, (e.set i none)[j]? = some (some s) → e[j]? = some (some s) := fun {j s} h => by
    rw [List.getElem?_set] at h
    split at h
    · split at h <;> cases h
    · exact h
  have ob : ∀ {a : Addr}, Obj σ (e.set i none) a → Obj σ e a := fun ⟨j, s, h1, h2, h3⟩ => ⟨j, s, sub h1, h2, h3⟩
  refine ⟨⟨by rw [List.length_set]; exact R.len, fun j s h => R.sl j s (sub h), R.ilen, R.st, R.nd, fun j o a h1 h2 => ?_, fun j o a h1 h2 => R.brw j o a (sub h1) h2⟩, ⟨⟨[], by simp⟩, .refl _, fun _ o h => ⟨o, h⟩, fun a o h1 h2 h3 => ⟨h1, h2, fun ⟨j, o, z1, z2⟩ => h3 ⟨j, o, sub z1, z2⟩, fun h z => h (ob z)⟩⟩⟩
  obtain ⟨z1, z2⟩ := R.own j o a (sub h1) h2
  exact ⟨z1, fun j' s b n h3 h4 h5 => z2 j' s b n (sub h3) h4 h5⟩
def srcItems (i : Nat) : M Src := fun e S => match e[i]? with
  | some (some (.own (.kd kvs))) => if (kvs.all fun q => kT q.1) && decide (kvs.length ≤ 1000000) then some (⟨kvs.map fun q => .tup [q.1, q.2], []⟩, e.set i none, S) else none
  | _ => none
theorem pr4_get {K : PySem.W.Frag} {H : Hp} {ι : List Addr} : ∀ {xs : List X4} {kvs : List (D × D)} {i : Nat} {q : D × D}, Paired (Pr4 K H ι) xs kvs → kvs[i]? = some q → ∃ x, xs[i]? = some x ∧ Pr4 K H ι x q
  | _, _, i, q, .nil, h => by simp at h
  | x :: _, _, 0, q, .cons r _, h => by simp at h; subst h; exact ⟨x, rfl, r⟩
  | _, _, i + 1, q, .cons _ t, h => by simpa using pr4_get (i := i) t (by simpa using h)
end G

set_option Elab.async false
set_option linter.all false
set_option maxRecDepth 1000000
set_option maxHeartbeats 4000000
/-! GMC: sum, min, max of a list; < of lists; xs.insert; reversed; list(d); {'a': 1, 'b': x}. -/
namespace G
variable [Wld]
open PySem PySem.Spec PyProof.Rows L2
/-! ### sum -/
def intsOf : List D → Option (List Int)
  | [] => some []
  | .int i :: ds => (intsOf ds).map (i :: ·)
  | _ :: _ => none
theorem RDs.ofInts {K : PySem.W.Frag} {H : Hp} {ι : List Addr} : ∀ {vs : List V} {ds : List D} {ns : List Int}, RDs K H ι vs ds → intsOf ds = some ns → vs = ns.map V.int
  | _, [], _, .nil, e => by cases e; rfl
  | _, d :: ds, ns, .cons h1 h2, e => by
    cases d with
    | int b =>
      obtain ⟨cs, e1, e2⟩ := Option.map_eq_some_iff.mp (show (intsOf ds).map (b :: ·) = some ns from e)
      subst e2
      cases h1
      rw [RDs.ofInts h2 e1]
      rfl
    | _ => cases e
def gSum (r : R) : M R := fun e S => (lstOf r e S).bind fun ds => (intsOf ds).map fun ns => (.d (.int ns.sum), e, S)
section
variable {X : Cx}
end
/-! ### min, max -/
def pI : PyData → Bool
  | .int _ => true
  | _ => false
def pS : PyData → Bool
  | .str _ => true
  | _ => false
def ofP : PyData → D
  | .int i => .int i
  | .str x => .str x
  | _ => .non
def bestP (mx : Bool) (p : PyData) (ps : List PyData) : PyData := if mx then PySem.W.maxD p ps else PySem.W.minD p ps
def gBest (mx : Bool) (r : R) : M R := fun e S => (lstOf r e S).bind fun ds => (kyrs ds).bind fun ps => match ps with
  | p :: ps => if (p :: ps).all pI || (p :: ps).all pS then some (.d (ofP (bestP mx p ps)), e, S) else none
  | [] => none
theorem fold_mem {α : Type} (f : α → α → Bool) : ∀ (xs : List α) (x : α), xs.foldl (fun a y => if f a y then y else a) x ∈ x :: xs
  | [], x => by simp
  | y :: xs, x => by
    rw [List.foldl_cons]
    have h := fold_mem f xs (if f x y then y else x)
    split at h
    · rename_i hh
      rw [if_pos hh] at *
      rcases List.mem_cons.mp h with h | h
      · rw [h]; simp
      · simp [h]
    · rename_i hh
      rw [if_neg hh] at *
      rcases List.mem_cons.mp h with h | h
      · rw [h]; simp
      · simp [h]
theorem flat_depth : ∀ {ps : List PyData}, (∀ p ∈ ps, pI p = true ∨ pS p = true) → PyData.depthAll ps ≤ 1
  | [], _ => Nat.zero_le _
  | p :: ps, h => by
    have ih := flat_depth (ps := ps) fun q hq => h q (by simp [hq])
    have h1 := h p (by simp)
    have : p.depth ≤ 1 := by
      cases p <;> first | (rcases h1 with h1 | h1 <;> (cases h1; done)) | (simp [PyData.depth])
    exact Nat.max_le.mpr ⟨this, ih⟩
section
variable {X : Cx}
end
/-! ### lists, one below the other -/
def pOk : PyData → Bool
  | .none => false
  | _ => true
def gLtL (rx ry : R) : M R := fun e S => (dat rx e S).bind fun x => (dat ry e S).bind fun y => (kyr x).bind fun p => (kyr y).bind fun q =>
  if PySem.W.alike p q && pOk p && decide (p.depth ≤ 60) then some (.d (.bl (PySem.W.dataLt p q)), e, S) else none
theorem RDw.reads {H : Hp} {ι : List Addr} {X : Cx} {pins : List (Addr × PySem.Obj)} {σ : SV} {s : Shared} (I : Inv X pins σ H s) {v : V} {u : Value} {d : D} {p : PyData} (h : RDw X.K H ι v d) (rv : RelV v u) (e : kyr d = some p) : ∃ as, Reads s.heap u p as := by
  rcases h with h | ⟨a, xs, ds, rfl, rfl, h1, h2⟩
  · exact RD.reads I d v u p h rv e
  · obtain ⟨ps, e1, e2⟩ := Option.map_eq_some_iff.mp (show (kyrs ds).map PyData.list = some p from e)
    subst e2
    cases rv
    obtain ⟨its, rr, t, _⟩ := I.list h1
    obtain ⟨o, g, c, n, dd⟩ := t.isList
    obtain ⟨as, q⟩ := RDs.reads I ds _ _ _ h2 rr e1
    exact ⟨_, .list g c dd q⟩
/-! ### xs.insert(i, x) -/
def gInsert (r : R) (rs : List R) : M R := match rs with
  | [.d (.int i), .d x] => wrL r fun ds => if 0 ≤ i ∧ i < 2 ^ 63 ∧ ds.length < 1000000 then some (.d .non, ds.take i.toNat ++ [x] ++ ds.drop i.toNat) else none
  | _ => stk
/-! ### reversed -/
def srcRev (r : R) : M Src := fun e S => match r with
  | .d (.tup ds) => some (⟨ds.reverse, []⟩, e, S)
  | .d (.lst ds) => some (⟨ds.reverse, []⟩, e, S)
  | _ => none
/-! ### list(d) -/
def gListK (r : R) : M R := fun e S => match look r e S with
  | some (.kd kvs) => if kvs.all fun q => kT q.1 then some (.new (.lst (kvs.map (·.1))), e, S) else none
  | _ => none
theorem RDs.keys {X : Cx} {H : Hp} {ι : List Addr} : ∀ {xs : List X4} {kvs : List (D × D)}, Paired (Pr4 X.K H ι) xs kvs → (∀ x ∈ xs, ktup x.1 = true) → RDs X.K H ι (xs.map fun x => V.ref (adV x.2.1)) (kvs.map (·.1)) ∧ Vals (xs.map fun x => V.ref (adV x.2.1)) (xs.map (·.2.1))
  | _, _, .nil, _ => ⟨.nil, .nil⟩
  | x :: xs, q :: kvs, .cons h t, ht => by
    obtain ⟨r1, r2⟩ := RDs.keys t fun y hy => ht y (by simp [hy])
    have hx := ht x (by simp)
    rcases h.2.1 with ⟨_, y, ry, dy⟩ | ⟨z, _⟩
    · have ea := row_ad h.1 hx dy ry
      obtain ⟨ds, eq⟩ := nk_row h.1 hx
      rw [eq] at dy
      cases dy with | tup g1 g2 =>
      rename_i a' _
      have e2 : x.2.1 = .ref a' := ry
      refine ⟨.cons ?_ r1, .cons ea r2⟩
      show RD X.K H ι (V.ref (adV x.2.1)) q.1
      rw [eq, e2]
      exact .tup g1 g2
    · rw [hx] at z; cases z
/-! ### {'a': 1, 'b': x} -/
def tPv : List (Str × (Int ⊕ Nat)) → List (TE × TE)
  | [] => []
  | (k, .inl i) :: r => (tC (.str k), tC (.int i)) :: tPv r
  | (k, .inr j) :: r => (tC (.str k), tVar j) :: tPv r
def dlV (e : En) : List (Str × (Int ⊕ Nat)) → Option (List (Key × D))
  | [] => some []
  | (k, .inl i) :: r => (dlV e r).map ((.inr k, .int i) :: ·)
  | (k, .inr j) :: r => match e[j]? with
    | some (some (.d x)) => (dlV e r).map ((.inr k, x) :: ·)
    | _ => none
def mDlV (kvs : List (Str × (Int ⊕ Nat))) : M R := fun e S => (dlV e kvs).map fun ds => (.new (.dct ds), e, S)
theorem tPairs_v {K : PySem.W.Frag} {H0 : Hp} {ι : List Addr} {S : Sto} {σ : SV} {e : En} (R : Rel K H0 ι σ e S) {H : Hp} : ∀ {kvs : List (Str × (Int ⊕ Nat))} {ds : List (Key × D)} {Q : List (V × V) → Hp → Prop}, dlV e kvs = some ds →
    (∀ ws : List (Key × V), ws.map (·.1) = kvs.map (fun p => .inr p.1) → RK K H0 ι ws ds → Q (ws.map fun kv => (kV kv.1, kv.2)) H) → tPairs (tPv kvs) σ H Q
  | [], ds, Q, h, q => by cases h; exact q [] rfl .nil
  | (k, .inl i) :: r, ds, Q, h, q => by
    obtain ⟨ds', h1, rfl⟩ := Option.map_eq_some_iff.mp h
    show tPairs (tPv r) σ H fun ps H3 => Q ((.str k, .int i) :: ps) H3
    exact tPairs_v R h1 fun ws e1 rk => q ((.inr k, .int i) :: ws) (by rw [List.map_cons, List.map_cons, e1]) (.cons ⟨rfl, .int i⟩ rk)
  | (k, .inr j) :: r, ds, Q, h, q => by
    unfold dlV at h
    split at h
    · rename_i x he
      obtain ⟨ds', h1, rfl⟩ := Option.map_eq_some_iff.mp h
      obtain ⟨v, hv, hr⟩ := R.sl j _ he
      exact ⟨v, hv, tPairs_v R h1 fun ws e1 rk => q ((.inr k, v) :: ws) (by rw [List.map_cons, List.map_cons, e1]) (.cons ⟨rfl, hr⟩ rk)⟩
    · cases h
theorem dlV_len {e : En} : ∀ {kvs : List (Str × (Int ⊕ Nat))} {ds : List (Key × D)}, dlV e kvs = some ds → ds.length = kvs.length
  | [], _, h => by cases h; rfl
  | (k, .inl i) :: r, _, h => by obtain ⟨ds', h1, rfl⟩ := Option.map_eq_some_iff.mp h; simp [dlV_len h1]
  | (k, .inr j) :: r, _, h => by
    unfold dlV at h
    split at h
    · obtain ⟨ds', h1, rfl⟩ := Option.map_eq_some_iff.mp h; simp [dlV_len h1]
    · cases h
end G
namespace G
variable [Wld]
open PySem PySem.Spec PyProof.Rows L2
end G

set_option Elab.async false
set_option linter.all false
set_option maxRecDepth 1000000
set_option maxHeartbeats 4000000
/-! GMD: xs * k of a list, locked or not. -/
namespace G
variable [Wld]
open PySem PySem.Spec PyProof PyProof.Rows L2
section
variable {X : Cx}
/-- xs * k -/
def gMulF (rx ry : R) : M R := fun e S => match ry with
  | .d (.int k) => (match look rx e S with
    | some (.lst xs) => if decide (-(2 ^ 63) ≤ k) && decide (k < 2 ^ 63) && decide (xs.length * k.toNat ≤ 1000000) then some (.new (.lst (List.replicate k.toNat xs).flatten), e, S) else none
    | _ => none)
  | _ => none
end
end G

set_option Elab.async false
set_option linter.all false
set_option maxRecDepth 1000000
set_option maxHeartbeats 4000000
/-! GME: list(x) of a text. -/
namespace G
variable [Wld]
open PySem PySem.Spec PyProof.Rows L2
section
variable {prog : Program} {w : World} {A : Around} {E : Value → Shared → Prop} {s : Shared} {x : Str} {t : Tok}
theorem lst_ext {R : Result → Shared → Prop} (hh : A.handled = none) (S : Addr) (res : Value) (c₀ : Nat) (hS : s.heap.get? S = some { cls := .type "list", data := .seq #[] c₀ })
    (hR : ∀ h' tk acc' c', (∀ b o, b ≠ S → s.heap.get? b = some o → h'.get? b = some o) → h'.get? S = some { cls := .type "list", dict := none, data := .seq acc' c', slots := #[] } → ItemsOf (SignAt x) acc' x.cps.size → R (.ok (.ret res)) { s with heap := h', toks := tk }) (hn : x.cps.size ≤ sizeLine) :
    wpAny (model prog w) A.in1 (Builtin.List.listExtendWith (.ref S) (.str x t) res)
      (fun fin s' => match fin with | .done f => R (.ok f) s' | .again c' => c'.quiet = true ∧ codeAny (model prog w) A c' R s') (fun e s' => R (.error e) s') s := by
  unfold Builtin.List.listExtendWith
  refine wpAny_bind (wpAny_typeOf (T := "str") (v := .str x t) rfl ?_)
  have h1 : Builtin.List.listSameRef (.ref S) (.str x t) = false := rfl
  have h2 : (Value.type "str" == Value.type "list") = false := by decide
  have h3 : (Value.type "str" == Value.type "tuple") = false := by decide
  simp only [h1, h2, h3, Bool.or_false, Bool.false_eq_true, if_false]
  refine wpAny_bind (wpAny_pyIter_str fun o St W hst => ?_)
  refine wpAny_bind (wpAny_holding ?_)
  unfold Builtin.List.listLengthHint
  refine wpAny_bind (wpAny_specialOf (T := "str") (v := .str x t) rfl F.str_len ?_)
  wp_delta
  refine wpAny_bind (wpAny_isInstance (T := "str") (v := .str x t) (b := true) rfl (by rw [isSubtype_type]; kernel_rfl) ?_)
  show wpAny _ A.in1 (typeOf (Value.str x t) >>= _) _ _ _
  refine wpAny_bind (wpAny_typeOf (T := "str") (v := .str x t) rfl ?_)
  refine wpAny_pure ?_
  rw [if_neg (by decide)]
  have hSf : S ∉ [s.heap.objs.size] := fun hm => by
    have := Heap.lt_size hS
    rw [List.mem_singleton.mp hm] at this
    exact Nat.lt_irrefl _ this
  have hS₁ := Heap.get?_push_of_some o hS
  refine wpAny_pure ⟨plainId_quiet PySem.F.plain_extend_loop _, codeAny_extend_loopS (W A.in1 hh).toS hn S hSf res x.cps.size 0 _ #[] c₀ rfl (Nat.zero_le _) hst hS₁ (ItemsOf.nil _) fun s' acc' c' hm hS' hacc => ?_⟩
  rw [Moved.eq_with hm]
  refine hR s'.heap s'.toks acc' c' (fun b ob hb e => hm.heap b ob (fun hmem => ?_) (Heap.get?_push_of_some _ e)) hS' hacc
  rcases List.mem_cons.mp hmem with e' | hmem
  · exact hb e'
  · exact absurd (Heap.lt_size e) (by rw [List.mem_singleton.mp hmem]; exact Nat.lt_irrefl _)
theorem lst_init {R : Result → Shared → Prop} (hh : A.handled = none) (S : Addr) (hS : s.heap.get? S = some { cls := .type "list", data := .seq #[] })
    (hR : ∀ h' tk acc' c', (∀ b o, b ≠ S → s.heap.get? b = some o → h'.get? b = some o) → h'.get? S = some { cls := .type "list", dict := none, data := .seq acc' c', slots := #[] } → ItemsOf (SignAt x) acc' x.cps.size → R (.ok (.ret .none)) { s with heap := h', toks := tk }) (hn : x.cps.size ≤ sizeLine) :
    wpAny (model prog w) A.in1 (Builtin.«list.__init__» ⟨[.ref S, .str x t], []⟩)
      (fun fin s' => match fin with | .done f => R (.ok f) s' | .again c' => c'.quiet = true ∧ codeAny (model prog w) A c' R s') (fun e s' => R (.error e) s') s := by
  show wpAny _ _ (do let old ← Builtin.List.listItems (.ref S); Builtin.List.listUpdate (.ref S) (fun _ => #[]); letGo old.toList.reverse; Builtin.List.listExtendWith (.ref S) (.str x t) .none) _ _ s
  refine wpAny_bind ?_
  unfold Builtin.List.listItems
  refine wpAny_bind (wpAny_seqItems hS rfl (wpAny_pure ?_))
  show wpAny _ _ (updateSeq S (fun _ => #[]) >>= fun _ => letGo (#[] : Array Value).toList.reverse >>= fun _ => Builtin.List.listExtendWith (.ref S) (.str x t) .none) _ _ s
  refine wpAny_bind (wpAny_updateSeq hS rfl ?_)
  have hS₂ := Heap.get?_update_self (Obj.mapSeq (fun _ => (#[] : Array Value))) hS rfl
  have oth : ∀ b o, b ≠ S → s.heap.get? b = some o → (s.heap.update S (Obj.mapSeq (fun _ => (#[] : Array Value)))).get? b = some o :=
    fun b o hb e => (Heap.get?_update_other _ _ (Ne.symm hb)).trans e
  refine wpAny_bind (wpAny_letGo ?_)
  refine lst_ext hh S .none _ hS₂ (fun h' tk acc' c' hk hS' hacc => ?_) hn
  exact hR h' tk acc' c' (fun b o hb e => hk b o hb (oth b o hb e)) hS' hacc
theorem list_str {Q : Value → Shared → Prop} (hh : A.handled = none) (hn : x.cps.size ≤ sizeLine)
    (hQ : ∀ h' tk acc' c', (∀ b o, s.heap.get? b = some o → h'.get? b = some o) → h'.get? s.heap.objs.size = some { cls := .type "list", dict := none, data := .seq acc' c', slots := #[] } → ItemsOf (SignAt x) acc' x.cps.size → Q (.ref s.heap.objs.size) { s with heap := h', toks := tk }) :
    wpAny (model prog w) A (call (.type "list") [.str x t]) Q E s := by
  refine PySem.callType_codes (Q₁ := fun obj s₁ => obj = .ref s.heap.objs.size ∧ s₁ = { s with heap := s.heap.push { cls := .type "list", data := .seq #[] } }) PySem.F.called_list (PySem.F.typeCall_list_1 _) PySem.F.entry_list_init
    (code_list_new _ ⟨rfl, rfl⟩) fun obj s₁ h₁ => ?_
  obtain ⟨rfl, rfl⟩ := h₁
  have hS : (s.heap.push { cls := .type "list", data := .seq #[] }).get? s.heap.objs.size = some { cls := .type "list", data := .seq #[] } := Heap.get?_push_size _ rfl
  refine ⟨⟨_, hS, rfl⟩, PySem.F.args_list_init_2 _ _, lst_init (A := A.in1) hh _ hS (fun h' tk acc' c' hk hS' hacc => ?_) hn⟩
  exact ⟨rfl, hQ h' tk acc' c' (fun b o e => hk b o (Nat.ne_of_lt (Heap.lt_size e)) (Heap.get?_push_of_some _ e)) hS' hacc⟩
end
def chs (z : Str) : List Str := z.cps.toList.map fun c => ⟨#[c]⟩
def gListS (r : R) : M R := fun e S => match r with
  | .d (.str z) => if z.cps.size ≤ 1000 then some (.new (.lst ((chs z).map D.str)), e, S) else none
  | r => gList r e S
theorem vals_of : ∀ {xs : List V} {us : List Value}, xs.length = us.length → (∀ (i : Nat) x u, xs[i]? = some x → us[i]? = some u → RelV x u) → Vals xs us
  | [], [], _, _ => .nil
  | x :: xs, u :: us, h, g => .cons (g 0 x u rfl rfl) (vals_of (by simpa using h) fun i a b ha hb => g (i + 1) a b ha hb)
  | [], _ :: _, h, _ => by simp at h
  | _ :: _, [], h, _ => by simp at h
end G

set_option Elab.async false
set_option linter.all false
set_option maxRecDepth 1000000
set_option maxHeartbeats 4000000
/-! GPA: expressions out of which an exception may come: readings, the first rules. -/
namespace G
variable [Wld]
open PySem PySem.Spec PyProof.Rows L2
/-- an exception that was raised: its class, its own fields -/
structure Ex where
  C : Addr
  ns : List Str
  ds : List D
def XAt (K : PySem.W.Frag) (H : Hp) (ι : List Addr) (x : Ex) : Option Addr → Prop
  | none => x.ns = [] ∧ x.ds = []
  | some dd => ∃ xs, H dd = some (.xd (x.ns.zip xs)) ∧ x.ns.length = x.ds.length ∧ RDs K H ι xs x.ds
def OutE (K : PySem.W.Frag) (W : WX) (H : Hp) (ι : List Addr) (σ : SV) (e e' : En) (S' : Sto) (x : Ex) : Prop := ∀ H' ι' d, Rel K H' ι' σ e' S' → Post H ι σ e H' ι' σ e' → XAt K H' ι' x d → (∀ dd, d = some dd → H dd = none) → W (.ref x.C) d σ H'
def EndE (K : PySem.W.Frag) (W : WX) (H : Hp) (ι : List Addr) (σ : SV) (e e' : En) (S' : Sto) (Q : VK) : R ⊕ Ex → Prop
  | .inl r => ∀ v H' ι', Rel K H' ι' σ e' S' → Post H ι σ e H' ι' σ e' → RR K H' ι' σ e' v r → Fresh H v r → Q v H'
  | .inr x => OutE K W H ι σ e e' S' x
def EndL (K : PySem.W.Frag) (W : WX) (H : Hp) (ι : List Addr) (σ : SV) (e e' : En) (S' : Sto) (Q : List V → Hp → Prop) : List R ⊕ Ex → Prop
  | .inl rs => ∀ vs H' ι', Rel K H' ι' σ e' S' → Post H ι σ e H' ι' σ e' → RRs K H' ι' σ e' vs rs → Q vs H'
  | .inr x => OutE K W H ι σ e e' S' x
def EndY (K : PySem.W.Frag) (W : WX) (T : Ends) (H : Hp) (ι : List Addr) (σ : SV) (e e' : En) (S' : Sto) : Fl ⊕ Ex → Prop
  | .inl .nx => ∀ σ' H' ι', Rel K H' ι' σ' e' S' → Post H ι σ e H' ι' σ' e' → T.nx σ' H'
  | .inl .bk => ∀ σ' H' ι', Rel K H' ι' σ' e' S' → Post H ι σ e H' ι' σ' e' → T.bk σ' H'
  | .inl .ct => ∀ σ' H' ι', Rel K H' ι' σ' e' S' → Post H ι σ e H' ι' σ' e' → T.ct σ' H'
  | .inl (.rt r) => ∀ v σ' H' ι', Rel K H' ι' σ' e' S' → Post H ι σ e H' ι' σ' e' → RRr K H ι σ e H' ι' v r → T.rt v H'
  | .inr x => ∀ σ' H' ι' d, Rel K H' ι' σ' e' S' → Post H ι σ e H' ι' σ' e' → XAt K H' ι' x d → (∀ dd, d = some dd → H dd = none) → W (.ref x.C) d σ' H'
section
variable {K : PySem.W.Frag} {W : WX} {H H1 : Hp} {ι ι1 : List Addr} {σ σ1 : SV} {e e1 e' : En} {S S1 S' : Sto} {Q : VK}
theorem OutE.after {x : Ex} (q : OutE K W H ι σ e e' S' x) (P1 : Post H ι σ e H1 ι1 σ e1) : OutE K W H1 ι1 σ e1 e' S' x := fun H2 ι2 d R2 P2 xa fr => q H2 ι2 d R2 (P1.trans P2) xa fun dd hd => P1.back (fr dd hd)
theorem EndE.after {z : R ⊕ Ex} (q : EndE K W H ι σ e e' S' Q z) (P1 : Post H ι σ e H1 ι1 σ e1) : EndE K W H1 ι1 σ e1 e' S' Q z := by
  cases z with
  | inl r => exact fun v H2 ι2 R2 P2 r2 f2 => q v H2 ι2 R2 (P1.trans P2) r2 (f2.back P1)
  | inr x => exact OutE.after q P1
theorem EndL.after {Q : List V → Hp → Prop} {z : List R ⊕ Ex} (q : EndL K W H ι σ e e' S' Q z) (P1 : Post H ι σ e H1 ι1 σ e1) : EndL K W H1 ι1 σ e1 e' S' Q z := by
  cases z with
  | inl r => exact fun v H2 ι2 R2 P2 r2 => q v H2 ι2 R2 (P1.trans P2) r2
  | inr x => exact OutE.after q P1
theorem EndY.after {T : Ends} {z : Fl ⊕ Ex} (q : EndY K W T H ι σ e e' S' z) (P1 : Post H ι σ e H1 ι1 σ1 e1) : EndY K W T H1 ι1 σ1 e1 e' S' z := by
  rcases z with (_ | _ | _ | r) | x
  · exact fun σ2 H2 ι2 R2 P2 => q σ2 H2 ι2 R2 (P1.trans P2)
  · exact fun σ2 H2 ι2 R2 P2 => q σ2 H2 ι2 R2 (P1.trans P2)
  · exact fun σ2 H2 ι2 R2 P2 => q σ2 H2 ι2 R2 (P1.trans P2)
  · exact fun v σ2 H2 ι2 R2 P2 r2 => q v σ2 H2 ι2 R2 (P1.trans P2) (r2.back P1)
  · exact fun σ2 H2 ι2 d R2 P2 xa fr => q σ2 H2 ι2 d R2 (P1.trans P2) xa fun dd hd => P1.back (fr dd hd)
theorem EndY.out {T : Ends} {x : Ex} (q : EndY K W T H ι σ e e' S' (.inr x)) : OutE K W H ι σ e e' S' x := fun H' ι' d => q σ H' ι' d
end
def bnY {α β : Type} (m : M (α ⊕ Ex)) (f : α → M (β ⊕ Ex)) : M (β ⊕ Ex) := bnd m fun z => match z with
  | .inl a => f a
  | .inr x => pur (.inr x)
def yl {α : Type} (m : M α) : M (α ⊕ Ex) := bnd m fun a => pur (.inl a)
theorem bnY_eq {α β : Type} {m : M (α ⊕ Ex)} {f : α → M (β ⊕ Ex)} {e : En} {S : Sto} {z : (β ⊕ Ex) × En × Sto} (h : bnY m f e S = some z) :
    (∃ a e1 S1, m e S = some (.inl a, e1, S1) ∧ f a e1 S1 = some z) ∨ ∃ x e1 S1, m e S = some (.inr x, e1, S1) ∧ z = (.inr x, e1, S1) := by
  obtain ⟨a, e1, S1, h1, h2⟩ := bnd_eq h
  rcases a with a | x
  · exact .inl ⟨a, e1, S1, h1, h2⟩
  · exact .inr ⟨x, e1, S1, h1, (Option.some.inj h2).symm⟩
theorem yl_eq {α : Type} {m : M α} {e : En} {S : Sto} {z : (α ⊕ Ex) × En × Sto} (h : yl m e S = some z) : ∃ a e' S', m e S = some (a, e', S') ∧ z = (.inl a, e', S') := by
  obtain ⟨a, e1, S1, h1, h2⟩ := bnd_eq h
  exact ⟨a, e1, S1, h1, (Option.some.inj h2).symm⟩
def tGEY (K : PySem.W.Frag) (W : WX) (m : M (R ⊕ Ex)) : TE := fun σ H Q => ∃ ι e S z e' S', Rel K H ι σ e S ∧ m e S = some (z, e', S') ∧ EndE K W H ι σ e e' S' Q z
def tGAY (K : PySem.W.Frag) (W : WX) (m : M (List R ⊕ Ex)) : TA := fun σ H Q => ∃ ι e S z e' S', Rel K H ι σ e S ∧ m e S = some (z, e', S') ∧ EndL K W H ι σ e e' S' Q z
def tGSY (K : PySem.W.Frag) (W : WX) (m : M (Fl ⊕ Ex)) : TS := fun T σ H => ∃ ι e S z e' S', Rel K H ι σ e S ∧ m e S = some (z, e', S') ∧ EndY K W T H ι σ e e' S' z
abbrev GEY (X : Cx) (W : WX) (ex : Expr) (m : M (R ⊕ Ex)) : Prop := PE X ex (tGEY X.K W m)
abbrev GAY (X : Cx) (W : WX) (es : List Expr) (m : M (List R ⊕ Ex)) : Prop := PA X es (tGAY X.K W m)
abbrev GSY (X : Cx) (W : WX) (st : Stmt) (m : M (Fl ⊕ Ex)) : Prop := PS X st (tGSY X.K W m)
abbrev GSYs (X : Cx) (W : WX) (st : List Stmt) (m : M (Fl ⊕ Ex)) : Prop := PSs X st (tGSY X.K W m)
section
variable {K : PySem.W.Frag} {W : WX} {H : Hp} {ι : List Addr} {σ : SV} {e e' : En} {S S' : Sto} {Q : VK}
/-- an expression's value, then more -/
theorem bindEE {ma : M (R ⊕ Ex)} {f : R → M (R ⊕ Ex)} {z : R ⊕ Ex} {T : VK} (R0 : Rel K H ι σ e S) (hm : bnY ma f e S = some (z, e', S')) (q : EndE K W H ι σ e e' S' Q z)
    (w : ∀ r e1 S1 v H1 ι1, Rel K H1 ι1 σ e1 S1 → Post H ι σ e H1 ι1 σ e1 → RR K H1 ι1 σ e1 v r → Fresh H v r → f r e1 S1 = some (z, e', S') → EndE K W H1 ι1 σ e1 e' S' Q z → T v H1) : tGEY K W ma σ H T := by
  rcases bnY_eq hm with ⟨a, e1, S1, h1, h2⟩ | ⟨x, e1, S1, h1, h2⟩
  · exact ⟨ι, e, S, .inl a, e1, S1, R0, h1, fun v H1 ι1 R1 P1 r1 f1 => w a e1 S1 v H1 ι1 R1 P1 r1 f1 h2 (q.after P1)⟩
  · cases h2
    exact ⟨ι, e, S, .inr x, _, _, R0, h1, q⟩
theorem bindEL {ma : M (R ⊕ Ex)} {f : R → M (List R ⊕ Ex)} {z : List R ⊕ Ex} {Q : List V → Hp → Prop} {T : VK} (R0 : Rel K H ι σ e S) (hm : bnY ma f e S = some (z, e', S')) (q : EndL K W H ι σ e e' S' Q z)
    (w : ∀ r e1 S1 v H1 ι1, Rel K H1 ι1 σ e1 S1 → Post H ι σ e H1 ι1 σ e1 → RR K H1 ι1 σ e1 v r → Fresh H v r → f r e1 S1 = some (z, e', S') → EndL K W H1 ι1 σ e1 e' S' Q z → T v H1) : tGEY K W ma σ H T := by
  rcases bnY_eq hm with ⟨a, e1, S1, h1, h2⟩ | ⟨x, e1, S1, h1, h2⟩
  · exact ⟨ι, e, S, .inl a, e1, S1, R0, h1, fun v H1 ι1 R1 P1 r1 f1 => w a e1 S1 v H1 ι1 R1 P1 r1 f1 h2 (q.after P1)⟩
  · cases h2
    exact ⟨ι, e, S, .inr x, _, _, R0, h1, q⟩
theorem bindES {ma : M (R ⊕ Ex)} {f : R → M (Fl ⊕ Ex)} {z : Fl ⊕ Ex} {D0 : Ends} {T : VK} (R0 : Rel K H ι σ e S) (hm : bnY ma f e S = some (z, e', S')) (q : EndY K W D0 H ι σ e e' S' z)
    (w : ∀ r e1 S1 v H1 ι1, Rel K H1 ι1 σ e1 S1 → Post H ι σ e H1 ι1 σ e1 → RR K H1 ι1 σ e1 v r → Fresh H v r → f r e1 S1 = some (z, e', S') → EndY K W D0 H ι σ e e' S' z → T v H1) : tGEY K W ma σ H T := by
  rcases bnY_eq hm with ⟨a, e1, S1, h1, h2⟩ | ⟨x, e1, S1, h1, h2⟩
  · exact ⟨ι, e, S, .inl a, e1, S1, R0, h1, fun v H1 ι1 R1 P1 r1 f1 => w a e1 S1 v H1 ι1 R1 P1 r1 f1 h2 q⟩
  · cases h2
    exact ⟨ι, e, S, .inr x, _, _, R0, h1, q.out⟩
theorem bindLL {ma : M (List R ⊕ Ex)} {f : List R → M (List R ⊕ Ex)} {z : List R ⊕ Ex} {Q T : List V → Hp → Prop} (R0 : Rel K H ι σ e S) (hm : bnY ma f e S = some (z, e', S')) (q : EndL K W H ι σ e e' S' Q z)
    (w : ∀ r e1 S1 v H1 ι1, Rel K H1 ι1 σ e1 S1 → Post H ι σ e H1 ι1 σ e1 → RRs K H1 ι1 σ e1 v r → f r e1 S1 = some (z, e', S') → EndL K W H1 ι1 σ e1 e' S' Q z → T v H1) : tGAY K W ma σ H T := by
  rcases bnY_eq hm with ⟨a, e1, S1, h1, h2⟩ | ⟨x, e1, S1, h1, h2⟩
  · exact ⟨ι, e, S, .inl a, e1, S1, R0, h1, fun v H1 ι1 R1 P1 r1 => w a e1 S1 v H1 ι1 R1 P1 r1 h2 (q.after P1)⟩
  · cases h2
    exact ⟨ι, e, S, .inr x, _, _, R0, h1, q⟩
theorem bindLE {ma : M (List R ⊕ Ex)} {f : List R → M (R ⊕ Ex)} {z : R ⊕ Ex} {T : List V → Hp → Prop} (R0 : Rel K H ι σ e S) (hm : bnY ma f e S = some (z, e', S')) (q : EndE K W H ι σ e e' S' Q z)
    (w : ∀ r e1 S1 v H1 ι1, Rel K H1 ι1 σ e1 S1 → Post H ι σ e H1 ι1 σ e1 → RRs K H1 ι1 σ e1 v r → f r e1 S1 = some (z, e', S') → EndE K W H1 ι1 σ e1 e' S' Q z → T v H1) : tGAY K W ma σ H T := by
  rcases bnY_eq hm with ⟨a, e1, S1, h1, h2⟩ | ⟨x, e1, S1, h1, h2⟩
  · exact ⟨ι, e, S, .inl a, e1, S1, R0, h1, fun v H1 ι1 R1 P1 r1 => w a e1 S1 v H1 ι1 R1 P1 r1 h2 (q.after P1)⟩
  · cases h2
    exact ⟨ι, e, S, .inr x, _, _, R0, h1, q⟩
/-- what cannot raise, as what might -/
theorem tGEY_lift {m : M R} (h : tGEY K W (yl m) σ H Q) : tG K m σ H Q := by
  obtain ⟨ι, e, S, z, e', S', R0, hm, q⟩ := h
  obtain ⟨a, e1, S1, h1, hz⟩ := yl_eq hm
  cases hz
  exact ⟨ι, e, S, a, _, _, R0, h1, q⟩
theorem tGAY_lift {m : M (List R)} {Q : List V → Hp → Prop} (h : tGAY K W (yl m) σ H Q) : tGA K m σ H Q := by
  obtain ⟨ι, e, S, z, e', S', R0, hm, q⟩ := h
  obtain ⟨a, e1, S1, h1, hz⟩ := yl_eq hm
  cases hz
  exact ⟨ι, e, S, a, _, _, R0, h1, q⟩
theorem tGSY_lift {m : M Fl} {T : Ends} (h : tGSY K W (yl m) T σ H) : tGS K m T σ H := by
  obtain ⟨ι, e, S, z, e', S', R0, hm, q⟩ := h
  obtain ⟨a, e1, S1, h1, hz⟩ := yl_eq hm
  cases hz
  refine ⟨ι, e, S, a, _, _, R0, h1, ?_⟩
  cases a <;> exact q
end
/-! ### rules -/
def mBinY (g : R → R → M R) (ma mb : M (R ⊕ Ex)) : M (R ⊕ Ex) := bnY ma fun x => bnY mb fun y => yl (g x y)
def mIfY {α : Type} (c : M Bool) (a b : M α) : M α := bnd c fun x => if x = true then a else b
def mNilY : M (List R ⊕ Ex) := yl (pur [])
def mConsY (a : M (R ⊕ Ex)) (b : M (List R ⊕ Ex)) : M (List R ⊕ Ex) := bnY a fun x => bnY b fun xs => yl (pur (x :: xs))
def mTupY (ms : M (List R ⊕ Ex)) : M (R ⊕ Ex) := bnY ms fun rs => yl (dispOf (fun ds => .d (.tup ds)) rs)
def mDY (m : M (R ⊕ Ex)) : M (R ⊕ Ex) := bnY m fun r => yl (toD r)
section
variable {X : Cx} {W : WX} {a b ex : Expr} {es : List Expr} {ma mb : M (R ⊕ Ex)} {ms : M (List R ⊕ Ex)} {mt : M Bool} {pos p : Pos}
theorem gey_l {m : M R} (h : GE X ex m) : GEY X W ex (yl m) := PE.imp h fun σ H Q q => tGEY_lift q
theorem gay_l {m : M (List R)} (h : GA X es m) : GAY X W es (yl m) := PA.imp h fun σ H Q q => tGAY_lift q
theorem gey_op {op : Operator} {g : R → R → M R} (ho : OpR X (binaryOp op) (tO2 X.K g)) (ha : GEY X W a ma) (hb : GEY X W b mb) : GEY X W (.BinOp a op b pos) (mBinY g ma mb) := PE.imp (pe_op ho ha hb) fun σ H Q q => by
  obtain ⟨ι, e, S, z, e', S', R0, hm, q⟩ := q
  refine bindEE R0 hm q fun r1 e1 S1 v H1 ι1 R1 P1 rr1 _ h1 q1 => bindEE R1 h1 q1 fun r2 e2 S2 w H2 ι2 R2 P2 rr2 _ h2 q2 => ?_
  obtain ⟨x, e3, S3, h3, hz⟩ := yl_eq h2
  cases hz
  exact ⟨ι2, σ, e2, S2, r1, r2, x, _, _, R2, rr1.post P2, rr2, h3, q2⟩
theorem gey_if {c : Expr} (hc : GT X c mt) (ha : GEY X W a ma) (hb : GEY X W b mb) : GEY X W (.IfExp c a b pos) (mIfY mt ma mb) := PE.imp (pe_ifExp hc ha hb) fun σ H Q q => by
  obtain ⟨ι, e, S, z, e', S', R0, hm, q⟩ := q
  obtain ⟨x, e1, S1, h1, hm⟩ := bnd_eq hm
  refine ⟨ι, e, S, x, e1, S1, R0, h1, fun H1 ι1 R1 P1 => ?_⟩
  have go : tGEY X.K W (if x = true then ma else mb) σ H1 Q := ⟨ι1, e1, S1, z, e', S', R1, hm, q.after P1⟩
  cases x with
  | true => exact go
  | false => exact go
theorem gay_nil : GAY X W [] mNilY := gay_l (PA.imp pa_nil fun σ H Q q => by
  obtain ⟨ι, e, S, r, e', S', R0, hm, q⟩ := q
  cases hm
  exact q [] H ι R0 .refl .nil)
theorem gay_cons (ha : GEY X W ex ma) (hr : GAY X W es ms) (hs : starEach (ex :: es) X.env = (false, eval ex X.env) :: starEach es X.env := by rfl) : GAY X W (ex :: es) (mConsY ma ms) := PA.imp (pa_cons ha hr hs) fun σ H Q q => by
  obtain ⟨ι, e, S, z, e', S', R0, hm, q⟩ := q
  refine bindEL R0 hm q fun r1 e1 S1 v H1 ι1 R1 P1 rr1 _ h1 q1 => bindLL R1 h1 q1 fun r2 e2 S2 w H2 ι2 R2 P2 rr2 h2 q2 => ?_
  obtain ⟨x, e3, S3, h3, hz⟩ := yl_eq h2
  cases h3
  cases hz
  exact q2 _ H2 ι2 R2 .refl (.cons (rr1.post P2) rr2)
/-- a built-in, or a type, of arguments that may raise -/
theorem tGEY_cb {K : PySem.W.Frag} {g : List R → M R} {σ : SV} {H : Hp} {Q : VK} (h : tGEY K W (bnY ms fun rs => yl (g rs)) σ H Q) : tGAY K W ms σ H fun vs H1 => tOA K g vs H1 Q := by
  obtain ⟨ι, e, S, z, e', S', R0, hm, q⟩ := h
  refine bindLE R0 hm q fun rs e1 S1 vs H1 ι1 R1 P1 r1 h1 q1 => ?_
  obtain ⟨x, e3, S3, h3, hz⟩ := yl_eq h1
  cases hz
  exact ⟨ι1, σ, e1, S1, rs, x, _, _, R1, r1, h3, q1⟩
theorem gey_cb {x : Str} {id : String} {g : List R → M R} (hc : CallR X (.builtin id) (tOA X.K g)) (hg : Gl X x) (hm : X.mg x = none) (hv : bootBuiltins x = some (.builtin id)) (ha : GAY X W (ex :: es) ms) (hn : x ≠ "__name__" := by decide) (hdb : (x == ("__debug__" : Str)) = false := by decide)
    (he : starEach (ex :: es) X.env = (false, eval ex X.env) :: starEach es X.env := by rfl) (hpl : (backTo pos (starEach es X.env)).any (·.1) = false := by rfl) : GEY X W (.Call (.Name x p) (ex :: es) [] pos) (bnY ms fun rs => yl (g rs)) :=
  PE.imp (pe_callB hc hg hm hv ha hn hdb he hpl) fun σ H Q q => tGEY_cb q
end
end G

set_option Elab.async false
set_option linter.all false
set_option maxRecDepth 1000000
set_option maxHeartbeats 4000000
/-! GPB: defs and methods out of which an exception may come: their bodies, their calls. -/
namespace G
variable [Wld]
open PySem PySem.Spec PyProof.Rows L2
/-- what a call lets out is taken -/
def TakesC (X : Cx) (W : WX) : Prop := ∀ (pins : List (Addr × PySem.Obj)) (σ : SV) (H : Hp) (s : Shared) (E : XK) (u : Value) (s' : Shared), Inv X pins σ H s → (∀ cls d H', E cls d H' → W cls d σ H') → L2.CX X.prog X.w X.stack H s E u s' → X.xe u s'
theorem TakesC.of {X : Cx} {W : WX} (tk : Takes X W) : TakesC X W := fun _ _ _ _ _ u s' I hW c => tk u s' (XE.of_call I hW c)
abbrev FnY := List Sl → Sto → Option ((Rt ⊕ Ex) × Sto)
def runY (nl : Nat) (body : M (Fl ⊕ Ex)) : FnY := fun sls S => match body (sls.map some ++ List.replicate nl none) S with
  | some (.inl (.rt r), _, S') => some (.inl r, S')
  | some (.inl .nx, _, S') => some (.inl (.d .non), S')
  | some (.inr x, _, S') => some (.inr x, S')
  | _ => none
def recY (nl : Nat) (body : FnY → M (Fl ⊕ Ex)) : Nat → FnY
  | 0 => fun _ _ => none
  | n + 1 => runY nl (body (recY nl body n))
def EndCY (K : PySem.W.Frag) (H : Hp) (ι : List Addr) (S' : Sto) (Q : VK) (E : XK) : Rt ⊕ Ex → Prop
  | .inl r => ∀ v H' ι', RelS K H' ι' S' → PostC H ι H' ι' → RRt K H H' ι' v r → Q v H'
  | .inr x => ∀ H' ι' d, RelS K H' ι' S' → PostC H ι H' ι' → XAt K H' ι' x d → (∀ dd, d = some dd → H dd = none) → E (.ref x.C) d H'
def spY (K : PySem.W.Frag) (n : Nat) (m : FnY) : Sp := fun vs H Q E => vs.length = n ∧ ∃ ι sls S r S', RelS K H ι S ∧ RSls K H ι vs sls ∧ m sls S = some (r, S') ∧ EndCY K H ι S' Q E r
section
variable {P : Program} {w : World} {K : PySem.W.Frag} {mg : Str → Option Value} {base : Heap}
theorem fny_ok {x qual : Str} {st : Stmt} {fa : Addr} {fd : FuncData} {N ps : List Str} {k : Nat} {body : M (Fl ⊕ Ex)} (F : Fun K x qual st fa fd) (Sc : FnScope N ps (defScope st))
    (h : ∀ (cdv : Value) (A : Around) (outer : List PySem.Env) (s : Shared) (H : Hp) (vs : List V) (Q : VK) (E : XK), Room k (A.deeper (envOfC qual (defScope st) s.heap.objs.size fa cdv)) → (A.deeper (envOfC qual (defScope st) s.heap.objs.size fa cdv)).guards = some [] →
      GSYs (cxOf (L2.CX P w) P w K mg base N qual (defScope st) fa cdv A outer s H E) (fun cls d _ H => E cls d H) (defBody st) body) :
    FnXG P w K mg base (k + 1) fa fd ps (spY K ps.length (runY (N.length - ps.length) body)) := by
  refine FnXG.of F Sc (fun vs H Q E q => q.1) fun cdv A outer s H vs Q E hr hgd q => ⟨_, h cdv A outer s H vs Q E hr hgd, ?_⟩
  obtain ⟨hl, ι, sls, S, r, S', R0, hs, hm, q⟩ := q
  have hl2 := hs.length
  unfold runY at hm
  rw [show ps.length = sls.length by omega] at hm
  have R1 := R0.start (N := N) hs
  have fin : ∀ {σ' : SV} {e' : En} {H' : Hp} {ι' : List Addr} {S' : Sto}, Rel K H' ι' σ' e' S' → Post H ι (L2.start N vs) (sls.map some ++ List.replicate (N.length - sls.length) none) H' ι' σ' e' → RelS K H' ι' S' ∧ PostC H ι H' ι' := fun R' P' =>
    ⟨R'.s, P'.pre, P'.stay, P'.dom, fun a o h1 h2 => let ⟨q1, q2, _⟩ := P'.keep a o h1 h2 (no_own hs a); ⟨q1, q2⟩⟩
  split at hm
  · rename_i r0 e' S1 hb
    cases hm
    refine ⟨ι, _, S, _, e', _, R1, hb, fun v σ' H' ι' R' P' r' => ?_⟩
    obtain ⟨Rs, Pc⟩ := fin R' P'
    refine q v H' ι' Rs Pc ?_
    cases r0 with
    | d x => exact r'
    | new o =>
      obtain ⟨a, rfl, ro, n, nk⟩ := r'
      refine ⟨a, rfl, ro, n, ?_⟩
      cases hq : H a with
      | none => rfl
      | some u => exact (nk u hq (fun hm => by obtain ⟨l, e⟩ := P'.pre; exact n (e ▸ List.mem_append_left _ hm)) (no_own hs a)).elim
  · rename_i e' S1 hb
    cases hm
    exact ⟨ι, _, S, _, e', _, R1, hb, fun σ' H' ι' R' P' => let ⟨Rs, Pc⟩ := fin R' P'; q .non H' ι' Rs Pc .non⟩
  · rename_i x0 e' S1 hb
    cases hm
    exact ⟨ι, _, S, _, e', _, R1, hb, fun σ' H' ι' d R' P' xa fr => let ⟨Rs, Pc⟩ := fin R' P'; q H' ι' d Rs Pc xa fr⟩
  · cases hm
end
/-- a call of what may raise -/
def callY (n : Nat) (f : FnY) (rs : List R) : M (R ⊕ Ex) := if rs.length = n then (fun e S => match toArgs rs e with
  | some sls => (match f sls S with
    | some (.inl r, S') => some (.inl r.r, e, S')
    | some (.inr x, S') => some (.inr x, e, S')
    | none => none)
  | none => none) else stk
theorem callY_sp {K : PySem.W.Frag} {W : WX} {f : FnY} {n : Nat} {σ : SV} {H : Hp} {Q : VK} {ι : List Addr} {e e' : En} {S S' : Sto} {rs : List R} {vs : List V} {z : R ⊕ Ex} (R1 : Rel K H ι σ e S) (r1 : RRs K H ι σ e vs rs) (hm : callY n f rs e S = some (z, e', S'))
    (q : EndE K W H ι σ e e' S' Q z) : spY K n f vs H Q (WE W σ) := by
  unfold callY at hm
  split at hm
  · rename_i hn
    dsimp only at hm
    split at hm
    · rename_i sls hs
      split at hm
      · rename_i rt S2 h2
        cases hm
        refine ⟨by rw [r1.length]; exact hn, ι, sls, S, _, _, R1.s, R1.args r1 hs, h2, fun v H2 ι2 R2 P2 r2 => ?_⟩
        obtain ⟨R3, P3⟩ := R1.called R2 P2
        cases rt with
        | d x => exact q v H2 ι2 R3 P3 r2 trivial
        | new o =>
          obtain ⟨a, rfl, ro, n1, n2⟩ := r2
          exact q _ H2 ι2 R3 P3 ⟨a, rfl, ro, n1, R1.ne_none n2⟩ ⟨a, rfl, n2⟩
      · rename_i x0 S2 h2
        cases hm
        refine ⟨by rw [r1.length]; exact hn, ι, sls, S, _, _, R1.s, R1.args r1 hs, h2, fun H2 ι2 d R2 P2 xa fr => ?_⟩
        obtain ⟨R3, P3⟩ := R1.called R2 P2
        exact q H2 ι2 d R3 P3 xa fr
      · cases hm
    · cases hm
  · cases hm
section
variable {X : Cx} {W : WX} {k : Nat} {fa C : Addr} {fd : FuncData} {ps : List Str} {sp : Sp} {dvs : List V} {ds : List Value} {x m : Str} {e o : Expr} {es : List Expr} {ta : TE} {t : TA} {p pos apos : Pos}
theorem FnXG.enter {pins : List (Addr × PySem.Obj)} {σ : SV} {H : Hp} {s : Shared} {Q : VK} {us : List Value} {vs : List V} (F : FnXG X.prog X.w X.K X.mg X.base k fa fd ps sp) (hr : Room k X.A) (hgd : X.A.guards = some []) (hb : Binds X.K fd ps ds) (hd : Vals dvs ds) (tk : TakesC X W)
    (I : Inv X pins σ H s) (r : Vals vs us) (h : sp (vs ++ dvs) H Q (WE W σ)) : wpAny (model X.prog X.w) X.A (call (.ref fa) us) (EP X pins σ Q) X.xe s := by
  have rr : Vals (vs ++ dvs) (us ++ ds) := r.append hd
  refine wpAny_call (codeAny_mono (F.run X.A X.stack s H ⟨us, []⟩ _ _ Q (WE W σ) hr hgd I.env0 (hb s us I.kIn (by rw [← rr.length]; exact F.len _ _ _ _ h)) rr h) fun z s' hz => ?_)
  match z, hz with
  | .error e, hz => exact tk pins σ H s _ e s' I (fun _ _ _ h => h) hz
  | .ok (.ret u), hz => exact I.after hz
  | .ok .next, hz => exact hz.elim
  | .ok .brk, hz => exact hz.elim
  | .ok .cont, hz => exact hz.elim
theorem pe_methXC {pl : Sem Bool} (he : PE X o ta) (c : Cls X.K C) (hm : Meth X.K C m fa) (F : FnXG X.prog X.w X.K X.mg X.base k fa fd ps sp) (hr : Room k X.A) (hg : X.A.guards = some []) (hb : Binds X.K fd ps ds) (hd : Vals dvs ds) (tk : TakesC X W) (ha : PA X (e :: es) t)
    (hst : starEach (e :: es) X.env = (false, eval e X.env) :: starEach es X.env := by rfl) (hpl : (backTo pos (starEach es X.env)).any (·.1) = false := by rfl)
    (ht : eval (.Call (.Attribute o m apos) (e :: es) [] pos) X.env = (do
      let ov ← eval o X.env
      standAt apos.atName
      let (f, first) ← holding [ov] (getMethod ov m pl)
      callWith pos f first (backTo pos (starEach (e :: es) X.env)) (backToKw pos (keywordEach [] X.env))) := by rfl) :
    PE X (.Call (.Attribute o m apos) (e :: es) [] pos) (fun σ H Q => tMeth C m sp dvs (WE W σ) ta t σ H Q) := by
  refine ⟨fun pins s σ H Q I h => ?_⟩
  refine PySem.W.methodCall_KW (pl := pl) (thn (he.run pins s σ H _ I h) fun u s1 ⟨x, H1, I1, rx, a, dx, fs, ex, ea, l, q⟩ => ?_) ht
  subst ex
  obtain rfl : u = Value.ref a := rx
  refine getmeth_ok I1 ea c hm l (PySem.W.callWith_K (first := [.ref a]) (h₀ := X.base) I.ok.mod.kin hm.kp (thn (ha.run pos pins s1 σ H1 _ I1 q) fun us s2 ⟨vs, H2, I2, r, q2⟩ => ⟨I2.kIn, ?_⟩) hst hpl)
  exact F.enter (us := .ref a :: us) (vs := .ref a :: vs) hr hg hb hd tk I2 (.cons rfl r) q2
end
/-- a def of the text that may raise -/
structure GFY (P : Program) (w : World) (K : PySem.W.Frag) (mg : Str → Option Value) (base : Heap) (k : Nat) (x : Str) (n : Nat) (m : FnY) : Prop where
  ex : ∃ fa fd ps, FnXG P w K mg base k fa fd ps (spY K n m) ∧ mg x = some (.ref fa) ∧ PySem.W.keepIn K (.ref fa) = true ∧ Binds K fd ps []
/-- a method that may raise -/
structure GFMY (P : Program) (w : World) (K : PySem.W.Frag) (mg : Str → Option Value) (base : Heap) (k : Nat) (c : Nat) (x : Str) (n : Nat) (dd : List D) (m : FnY) : Prop where
  ex : ∃ f fd ps ds dvs, FnXG P w K mg base k f fd ps (spY K n m) ∧ Meth K (Wld.cls c) x f ∧ Binds K fd ps ds ∧ Vals dvs ds ∧ ∀ H ι, RDs K H ι dvs dd
/-- a class whose __init__ may raise -/
structure GMkY (P : Program) (w : World) (K : PySem.W.Frag) (mg : Str → Option Value) (base : Heap) (k : Nat) (c : Nat) (x : Str) (n : Nat) (m : FnY) : Prop where
  ex : ∃ f fd ps, FnXG P w K mg base k f fd ps (spY K n m) ∧ Mk K (Wld.cls c) f ∧ mg x = some (.ref (Wld.cls c)) ∧ Binds K fd ps []
section
variable {P : Program} {w : World} {K : PySem.W.Frag} {mg : Str → Option Value} {base : Heap} {x qual : Str} {st : Stmt} {N ps : List Str} {k c : Nat} {dd : List D}
theorem GFY.mono {j k n : Nat} {m : FnY} (F : GFY P w K mg base j x n m) (h : j ≤ k) : GFY P w K mg base k x n m := by
  obtain ⟨fa, fd, ps, a, b⟩ := F.ex
  exact ⟨⟨fa, fd, ps, a.mono h, b⟩⟩
theorem GFMY.mono {j k n : Nat} {m : FnY} (F : GFMY P w K mg base j c x n dd m) (h : j ≤ k) : GFMY P w K mg base k c x n dd m := by
  obtain ⟨f, fd, ps, ds, dvs, ok, hm, hb⟩ := F.ex
  exact ⟨⟨f, fd, ps, ds, dvs, ok.mono h, hm, hb⟩⟩
theorem GMkY.mono {j k n : Nat} {m : FnY} (F : GMkY P w K mg base j c x n m) (h : j ≤ k) : GMkY P w K mg base k c x n m := by
  obtain ⟨f, fd, ps, ok, hm⟩ := F.ex
  exact ⟨⟨f, fd, ps, ok.mono h, hm⟩⟩
/-- the body's promise, as the makers of defs want it -/
abbrev BodyY (P : Program) (w : World) (K : PySem.W.Frag) (mg : Str → Option Value) (base : Heap) (qual : Str) (st : Stmt) (N : List Str) (k : Nat) (body : M (Fl ⊕ Ex)) : Prop :=
  ∀ (f : Addr) (cdv : Value) (A : Around) (outer : List PySem.Env) (s : Shared) (H : Hp) (vs : List V) (Q : VK) (E : XK), Room k (A.deeper (envOfC qual (defScope st) s.heap.objs.size f cdv)) → (A.deeper (envOfC qual (defScope st) s.heap.objs.size f cdv)).guards = some [] →
    GSYs (cxOf (L2.CX P w) P w K mg base N qual (defScope st) f cdv A outer s H E) (fun cls d _ H => E cls d H) (defBody st) body
theorem GFY.bodyOf {body : M (Fl ⊕ Ex)} (T : DF K mg x qual st ps) (Sc : FnScope N ps (defScope st)) (h : BodyY P w K mg base qual st N k body) : GFY P w K mg base (k + 1) x ps.length (runY (N.length - ps.length) body) := by
  obtain ⟨fa, fd, F, hm, hb⟩ := T.ex
  exact ⟨⟨fa, fd, ps, fny_ok F Sc (h fa), hm, F.kp, hb⟩⟩
theorem GFMY.bodyOf {body : M (Fl ⊕ Ex)} (T : DM K c x qual st ps dd) (Sc : FnScope N ps (defScope st)) (h : BodyY P w K mg base qual st N k body) : GFMY P w K mg base (k + 1) c x ps.length dd (runY (N.length - ps.length) body) := by
  obtain ⟨f, fd, ds, dvs, F, hm, hb, hv, hd⟩ := T.ex
  exact ⟨⟨f, fd, ps, ds, dvs, fny_ok F Sc (h f), hm, hb, hv, hd⟩⟩
theorem GMkY.bodyOf {body : M (Fl ⊕ Ex)} (T : DI K mg c x qual st ps) (Sc : FnScope N ps (defScope st)) (h : BodyY P w K mg base qual st N k body) : GMkY P w K mg base (k + 1) c x ps.length (runY (N.length - ps.length) body) := by
  obtain ⟨f, fd, F, hm, hg, hb⟩ := T.ex
  exact ⟨⟨f, fd, ps, fny_ok F Sc (h f), hm, hg, hb⟩⟩
theorem gsy_never {X : Cx} {W : WX} {b : List Stmt} : GSYs X W b stk := ⟨fun pins s σ H T I q => by
  obtain ⟨ι, e, S, z, e', S', _, hm, _⟩ := q
  cases hm⟩
theorem GFMY.recOf {body : FnY → M (Fl ⊕ Ex)} (T : DM K c x qual st ps dd) (Sc : FnScope N ps (defScope st))
    (h : ∀ (n : Nat) (self : FnY), GFMY P w K mg base (k + n + 1) c x ps.length dd self → BodyY P w K mg base qual st N (k + n + 1) (body self)) :
    ∀ n, GFMY P w K mg base (k + n + 1) c x ps.length dd (recY (N.length - ps.length) body n) := by
  obtain ⟨f, fd, ds, dvs, F, hm, hb, hv, hd⟩ := T.ex
  intro n
  induction n with
  | zero => exact ⟨⟨f, fd, ps, ds, dvs, fny_ok (N := N) (body := stk) F Sc fun cdv A outer s H vs Q E hr hgd => gsy_never, hm, hb, hv, hd⟩⟩
  | succ n ih => exact ⟨⟨f, fd, ps, ds, dvs, fny_ok F Sc (h n _ ih f), hm, hb, hv, hd⟩⟩
theorem GFMY.recOfS (s : Nat) {body : FnY → M (Fl ⊕ Ex)} (T : DM K c x qual st ps dd) (Sc : FnScope N ps (defScope st))
    (h : ∀ (n : Nat) (self : FnY), GFMY P w K mg base (k + (s + 1) * n + 1) c x ps.length dd self → BodyY P w K mg base qual st N (k + (s + 1) * n + s + 1) (body self)) :
    ∀ n, GFMY P w K mg base (k + (s + 1) * n + 1) c x ps.length dd (recY (N.length - ps.length) body n) := by
  obtain ⟨f, fd, ds, dvs, F, hm, hb, hv, hd⟩ := T.ex
  intro n
  induction n with
  | zero => exact ⟨⟨f, fd, ps, ds, dvs, fny_ok (N := N) (body := stk) F Sc fun cdv A outer s H vs Q E hr hgd => gsy_never, hm, hb, hv, hd⟩⟩
  | succ n ih => exact ⟨⟨f, fd, ps, ds, dvs, FnXG.mono (fny_ok F Sc (h n _ ih f)) (show k + (s + 1) * n + s + 1 + 1 ≤ k + (s + 1) * (n + 1) + 1 by rw [Nat.mul_add]; omega), hm, hb, hv, hd⟩⟩
end
def mCallY (n : Nat) (f : FnY) (ms : M (List R)) : M (R ⊕ Ex) := bnd ms (callY n f)
def mMethY (c : Nat) (x : Str) (n : Nat) (dd : List D) (f : FnY) (mo : M R) (ms : M (List R)) : M (R ⊕ Ex) := bnd mo fun r e S => match insOf r S c with
  | some (_, ns, _) => if x ∈ ns then none else bnd ms (fun rs => callY n f (r :: (rs ++ dd.map R.d))) e S
  | none => none
def mMakeY (c n : Nat) (f : FnY) (ms : M (List R)) : M (R ⊕ Ex) := bnd ms fun rs e S => if rs.length + 1 = n then match toArgs rs e with
    | some sls => match f (.d (.ref S.length) :: sls) (S ++ [.ins c [] []]) with
      | some (.inl (.d .non), S') => some (.inl (.d (.ref S.length)), e, S')
      | some (.inr x, S') => some (.inr x, e, S')
      | _ => none
    | none => none
  else none
theorem tGEY_meth {K : PySem.W.Frag} {W : WX} {c n : Nat} {x : Str} {dd : List D} {f : FnY} {mo : M R} {ms : M (List R)} {σ : SV} {H : Hp} {Q : VK} {dvs : List V} (hd : ∀ H ι, RDs K H ι dvs dd) (q : tGEY K W (mMethY c x n dd f mo ms) σ H Q) :
    tMeth (Wld.cls c) x (spY K n f) dvs (WE W σ) (tG K mo) (tGA K ms) σ H Q := by
  obtain ⟨ι, e, S, r, e', S', R0, hm, q⟩ := q
  obtain ⟨y, e1, S1, h1, hm⟩ := bnd_eq hm
  refine ⟨ι, e, S, y, e1, S1, R0, h1, fun v H1 ι1 R1 P1 r1 _ => ?_⟩
  split at hm
  · rename_i n' ns ds hi
    split at hm
    · cases hm
    · rename_i hns
      obtain ⟨rs, e2, S2, h2, hm⟩ := bnd_eq hm
      obtain ⟨a, dx, xs, rfl, rfl, hι, hS, hH, hl, hx⟩ := R1.insOf r1 hi
      refine ⟨a, dx, _, rfl, hH, lookup_non hns, ι1, e1, S1, rs, e2, S2, R1, h2, fun vs H2 ι2 R2 P2 r2 => ?_⟩
      exact callY_sp (rs := .d (.ref n') :: (rs ++ dd.map G.R.d)) R2 (.cons (r1.post P2) (r2.app (hd _ _))) hm ((q.after P1).after P2)
  · cases hm
section
variable {X : Cx} {W : WX} {k n c : Nat} {f : FnY} {x : Str} {dd : List D} {o ex : Expr} {es : List Expr} {mo : M R} {ms : M (List R)} {p pos apos : Pos}
theorem gey_meth {pl : Sem Bool} (F : GFMY X.prog X.w X.K X.mg X.base k c x n dd f) (hC : Cls X.K (Wld.cls c)) (hr : Room k X.A) (hgd : X.A.guards = some []) (tk : TakesC X W) (ho : GE X o mo) (ha : GA X (ex :: es) ms)
    (hst : starEach (ex :: es) X.env = (false, eval ex X.env) :: starEach es X.env := by rfl) (hpl : (backTo pos (starEach es X.env)).any (·.1) = false := by rfl)
    (ht : eval (.Call (.Attribute o x apos) (ex :: es) [] pos) X.env = (do
      let ov ← eval o X.env
      standAt apos.atName
      let (f, first) ← holding [ov] (getMethod ov x pl)
      callWith pos f first (backTo pos (starEach (ex :: es) X.env)) (backToKw pos (keywordEach [] X.env))) := by rfl) : GEY X W (.Call (.Attribute o x apos) (ex :: es) [] pos) (mMethY c x n dd f mo ms) := by
  obtain ⟨fa, fd, ps, ds, dvs, ok, hm, hb, hv, hd⟩ := F.ex
  exact PE.imp (pe_methXC ho hC hm ok hr hgd hb hv tk ha hst hpl ht) fun σ H Q q => tGEY_meth hd q
end
/-! ### an instance made -/
section
variable {X : Cx} {W : WX} {k : Nat} {fa C : Addr} {fd : FuncData} {ps : List Str} {sp : Sp} {x : Str} {p pos : Pos} {e : Expr} {es : List Expr} {t : TA}
end
section
variable {X : Cx} {W : WX} {k n c : Nat} {f : FnY} {x : Str} {ex : Expr} {es : List Expr} {ms : M (List R)} {p pos : Pos}
end
/-! ### defs that do not raise, of arguments that may -/
def mCallDY (n : Nat) (dd : List D) (f : Fn) (ms : M (List R ⊕ Ex)) : M (R ⊕ Ex) := bnY ms fun rs => yl (mCall n f (pur (rs ++ dd.map R.d)))
section
variable {X : Cx} {W : WX} {k n : Nat} {f : Fn} {x : Str} {dd : List D} {ex : Expr} {es : List Expr} {ms : M (List R ⊕ Ex)} {p pos : Pos}
end
end G

set_option Elab.async false
set_option linter.all false
set_option maxRecDepth 1000000
set_option maxHeartbeats 4000000
/-! GPC: list comprehensions out of which an exception may come. -/
namespace G
variable [Wld]
open PySem PySem.Spec PyProof.Rows L2
/-- the end of a comprehension's block: also by an exception, in the frame L -/
def compPostX (M : Model) (A : Around) (E : Value → Shared → Prop) (Q : Value → Shared → Prop) (acc : Value) (C : Addr) (L : Option Addr) : Result → Shared → Prop
  | .ok _, s' => ∃ m, s'.heap.Ns C m ∧ ∀ h', Heap.SameBut C s'.heap h' → Q acc { s' with heap := h' }
  | .error x, s' => ∃ m, s'.heap.Ns C m ∧ ∀ h', Heap.SameBut C s'.heap h' → ∀ ce : PySem.Env, ce.frame = L → wpAny M A (passOn "comprehension.variables-let-go" x ce : Sem Value) (fun _ _ => False) E { s' with heap := h' }
section
variable {M : Model} {A : Around} {E : Value → Shared → Prop} {s : Shared} {env : PySem.Env}
end
/-- frames stay where they stand -/
theorem frames_at {h h' B B' : Heap} : ∀ {l : List PySem.Env}, h.FunFrames B l → (∀ L ∈ frs l, h'.get? L = h.get? L) → (∀ L, B.get? L = none → B'.get? L = none) → h'.FunFrames B' l
  | [], _, _, _ => trivial
  | env :: l, ⟨hk, ⟨L, o, hf, hn, ho, hd⟩, hr⟩, k, n => by
    have mem : ∀ {b}, b ∈ frs l → b ∈ frs (env :: l) := fun {b} hb => by
      obtain ⟨e, he, q⟩ := List.mem_filterMap.mp hb
      exact List.mem_filterMap.mpr ⟨e, List.mem_cons_of_mem _ he, q⟩
    exact ⟨hk, ⟨L, o, hf, n L hn, (k L (List.mem_filterMap.mpr ⟨env, List.mem_cons_self, hf⟩)).trans ho, hd⟩, frames_at hr (fun b hb => k b (mem hb)) n⟩
/-- the context of a block out of which an exception may come -/
abbrev Cxb (X : Cx) (s : Shared) (H : Hp) (scope : Scope) (ce : PySem.Env) (fp : List Addr) (xe : Value → Shared → Prop) : Cx := (X.blk s H scope ce fp).wish xe
section
variable {X : Cx} {W : WX} {pins : List (Addr × PySem.Obj)} {σ : L2.St} {H3 : Hp} {s3 : Shared} {scope : Scope} {ce : PySem.Env} {fp : List Addr} {Q : Value → Shared → Prop} {acc : Value}
end
end G

set_option Elab.async false
set_option linter.all false
set_option maxRecDepth 1000000
set_option maxHeartbeats 4000000
/-! GPD: the loop of a comprehension's block whose items may raise; its mirror. -/
namespace G
variable [Wld]
open PySem PySem.Spec PyProof.Rows L2
/-- [elt for target in iter], te the item's reading by what is wished of an exception -/
def tLcY (wi : TI) (g : TG) (te : WX → TE) (vs : List Nat) (W : WX) : TE := fun σ H Q => tLc wi g tYes (te fun cls d _ H' => W cls d σ H') vs σ H Q
section
variable {X : Cx} {W : WX}
end
end G

set_option Elab.async false
set_option linter.all false
set_option maxRecDepth 1000000
set_option maxHeartbeats 4000000
/-! GPE: the mirror of a comprehension whose source and items may raise. -/
namespace G
variable [Wld]
open PySem PySem.Spec PyProof.Rows L2
def EndI (K : PySem.W.Frag) (W : WX) (H : Hp) (ι : List Addr) (σ : SV) (e e' : En) (S' : Sto) (Rr : It → Hp → Prop) : Src ⊕ Ex → Prop
  | .inl src => ∀ J H' ι', Rel K H' ι' σ e' S' → Post H ι σ e H' ι' σ e' → Feeds K src J H' ι' σ e' → Rr J H'
  | .inr x => OutE K W H ι σ e e' S' x
def tGIY (K : PySem.W.Frag) (W : WX) (m : M (Src ⊕ Ex)) : TI := fun σ H Rr => ∃ ι e S z e' S', Rel K H ι σ e S ∧ m e S = some (z, e', S') ∧ EndI K W H ι σ e e' S' Rr z
abbrev GIY (X : Cx) (W : WX) (tg ex : Expr) (m : M (Src ⊕ Ex)) : Prop := PI X tg ex (tGIY X.K W m)
section
variable {X : Cx} {W : WX} {tg ex a : Expr} {p pos : Pos}
def srcR1Y (rs : List R) : M Src := fun e S => match rs with
  | [.d (.int j)] => if -(2 ^ 62) ≤ j ∧ j < 2 ^ 62 then some (⟨rngD 0 j.toNat, []⟩, e, S) else none
  | _ => none
end
/-- the items made, or what came out -/
noncomputable def compLY (vs : List Nat) (t : Tgt) (elt : M (R ⊕ Ex)) (ws : List (R × List D)) : Nat → List D → M (List D ⊕ Ex)
  | _, [] => fun e S => if wat ws e S then some (.inl [], e, S) else none
  | k, d :: ds => fun e S => if wat ws e S ∧ k < 1000000 then (match t d e with
    | some e1 => match elt e1 S with
      | some (.inl (.d y), e3, S3) => (match compLY vs t elt ws (k + 1) ds (wipeE e3 vs) S3 with
        | some (.inl ys, e4, S4) => some (.inl (y :: ys), e4, S4)
        | some (.inr x, e4, S4) => some (.inr x, e4, S4)
        | none => none)
      | some (.inr x, e3, S3) => some (.inr x, wipeE e3 vs, S3)
      | _ => none
    | none => none) else none
noncomputable def mLcY (vs : List Nat) (t : Tgt) (mi : M (Src ⊕ Ex)) (elt : M (R ⊕ Ex)) : M (R ⊕ Ex) := bnY mi fun src => bnY (fun e S => compLY vs t elt src.ws 0 src.items (wipeE e vs) S) fun ys => yl (pur (.new (.lst ys)))
theorem compLY_env {vs : List Nat} {t : Tgt} {elt : M (R ⊕ Ex)} {ws : List (R × List D)} : ∀ {ds : List D} {k : Nat} {e : En} {S : Sto} {z}, compLY vs t elt ws k ds e S = some z → (∀ i ∈ vs, ∀ s, e[i]? ≠ some (some s)) → ∀ i ∈ vs, ∀ s, z.2.1[i]? ≠ some (some s)
  | [], k, e, S, z, h, hw => by
    unfold compLY at h
    split at h
    · cases h; exact hw
    · cases h
  | d :: ds, k, e, S, z, h, hw => by
    unfold compLY at h
    split at h
    case isFalse => cases h
    split at h
    case h_2 => cases h
    split at h
    · split at h
      · rename_i hh
        cases h
        exact fun i hi s => (compLY_env hh (fun i hi s => wipeE_none hi) i hi s)
      · rename_i hh
        cases h
        exact fun i hi s => (compLY_env hh (fun i hi s => wipeE_none hi) i hi s)
      · cases h
    · cases h
      exact fun i hi s => wipeE_none hi
    · cases h
section
variable {X : Cx} {W : WX} {elt tg iter : Expr} {scope : Scope} {own : List (Str × Nat)} {pos : Pos} {mi : M (Src ⊕ Ex)} {t : Tgt} {me : M (R ⊕ Ex)}
end
end G

set_option Elab.async false
set_option linter.all false
set_option maxRecDepth 1000000
set_option maxHeartbeats 4000000
/-! GPF: statements out of which an exception may come. -/
namespace G
variable [Wld]
open PySem PySem.Spec PyProof.Rows L2
def ySeq (a b : M (Fl ⊕ Ex)) : M (Fl ⊕ Ex) := bnd a fun fl => match fl with
  | .inl .nx => b
  | z => pur z
def yIf (mt : M Bool) (a b : M (Fl ⊕ Ex)) : M (Fl ⊕ Ex) := bnd mt fun x => if x = true then a else b
def yRet (m : M (R ⊕ Ex)) : M (Fl ⊕ Ex) := bnY m fun r => yl (toRt r)
def ySet (i : Nat) (m : M (R ⊕ Ex)) : M (Fl ⊕ Ex) := bnY m fun r => yl (setS i r)
def yDrop (m : M (R ⊕ Ex)) : M (Fl ⊕ Ex) := bnY m fun _ => yl (pur .nx)
def yPar2 (i j : Nat) (ma mb : M (R ⊕ Ex)) : M (Fl ⊕ Ex) := bnY ma fun x => bnY mb fun y => yl (mSeq (setS i x) (setS j y))
def whileY (c : M Bool) (body : M (Fl ⊕ Ex)) : Nat → M (Fl ⊕ Ex)
  | 0 => stk
  | n + 1 => fun e S => match c e S with
    | some (true, e1, S1) => (match body e1 S1 with
      | some (.inl .nx, e2, S2) => whileY c body n e2 S2
      | some (.inl .ct, e2, S2) => whileY c body n e2 S2
      | some (.inl .bk, e2, S2) => some (.inl .nx, e2, S2)
      | some (.inl (.rt r), e2, S2) => some (.inl (.rt r), e2, S2)
      | some (.inr x, e2, S2) => some (.inr x, e2, S2)
      | none => none)
    | some (false, e1, S1) => some (.inl .nx, e1, S1)
    | none => none
/-- raise C(e), C's own field f set -/
def yRaise (C : Addr) (f : Str) (m : M R) : M (Fl ⊕ Ex) := bnd m fun r => match r with
  | .d x => pur (.inr ⟨C, [f], [x]⟩)
  | _ => stk
/-- raise C() -/
def yRaise0 (C : Addr) : M (Fl ⊕ Ex) := pur (.inr ⟨C, [], []⟩)
def mMthY (T : String) (g : R → List R → M R) (mo : M R) (ms : M (List R ⊕ Ex)) : M (R ⊕ Ex) := bnd (bnd mo (chk T)) fun x => bnY ms fun ys => yl (g x ys)
section
variable {X : Cx} {W : WX} {st : Stmt} {rest : List Stmt} {a b : M (Fl ⊕ Ex)} {m ma mb : M (R ⊕ Ex)} {mt : M Bool} {ex ea eb : Expr} {pos pos' : Pos}
theorem gsy_l {m : M Fl} (h : GS X st m) : GSY X W st (yl m) := PS.imp h fun T σ H q => tGSY_lift q
theorem gsys_nil : GSYs X W [] (yl mSkip) := PSs.imp gss_nil fun T σ H q => tGSY_lift q
theorem tGSY_at {K : PySem.W.Frag} {m : M (Fl ⊕ Ex)} {T : Ends} {H H1 : Hp} {ι ι1 : List Addr} {σ σ1 : SV} {e e1 e' : En} {S1 S' : Sto} {z : Fl ⊕ Ex} (R1 : Rel K H1 ι1 σ1 e1 S1) (P1 : Post H ι σ e H1 ι1 σ1 e1) (hm : m e1 S1 = some (z, e', S')) (q : EndY K W T H ι σ e e' S' z) : tGSY K W m T σ1 H1 :=
  ⟨ι1, e1, S1, z, e', S', R1, hm, q.after P1⟩
theorem gsys_cons (h1 : GSY X W st a) (h2 : GSYs X W rest b) : GSYs X W (st :: rest) (ySeq a b) := PSs.imp (pss_cons h1 h2) fun T σ H q => by
  obtain ⟨ι, e, S, z, e', S', R0, hm, q⟩ := q
  obtain ⟨f1, e1, S1, h1, hm⟩ := bnd_eq hm
  refine ⟨ι, e, S, f1, e1, S1, R0, h1, ?_⟩
  rcases f1 with (_ | _ | _ | r) | x
  · exact fun σ1 H1 ι1 R1 P1 => tGSY_at R1 P1 hm q
  all_goals (cases hm; exact q)
theorem gsys_one (h1 : GSY X W st a) : GSYs X W [st] a := pss_one h1
theorem gsy_if {c : Expr} {s1 s2 : List Stmt} (hc : GT X c mt) (h1 : GSYs X W s1 a) (h2 : GSYs X W s2 b) : GSY X W (.If c s1 s2 pos) (yIf mt a b) := PS.imp (ps_if hc h1 h2) fun T σ H q => by
  obtain ⟨ι, e, S, z, e', S', R0, hm, q⟩ := q
  obtain ⟨x, e1, S1, h1, hm⟩ := bnd_eq hm
  refine ⟨ι, e, S, x, e1, S1, R0, h1, fun H1 ι1 R1 P1 => ?_⟩
  have go : tGSY X.K W (if x = true then a else b) T σ H1 := tGSY_at R1 P1 hm q
  cases x with
  | true => exact go
  | false => exact go
theorem gsy_set {i : Nat} {x : Str} (hN : X.N.Nodup) (hi : X.N[i]? = some x) (hx : Loc X.env.scope x) (h : GEY X W ex m) (hs : swapsWith ex (some (.Name x pos')) pos.line X.env = pure false := by rfl) (hf : X.fn x = true ∨ X.env.scope.names.lookup x = some .local := by first | exact .inl rfl | exact .inr rfl | assumption) :
    GSY X W (.Assign [.Name x pos'] ex pos) (ySet i m) := PS.imp (ps_set hN hi hx h hs hf) fun T σ H q => by
  obtain ⟨ι, e, S, z, e', S', R0, hm, q⟩ := q
  refine bindES R0 hm q fun r e1 S1 v H1 ι1 R1 P1 r1 f1 h1 q1 => ?_
  obtain ⟨fl, e2, S2, h2, hz⟩ := yl_eq h1
  cases hz
  obtain ⟨s, hsl, hil, hz⟩ := setS_eq h2
  cases hz
  obtain ⟨R2, P2⟩ := R1.put P1 r1 f1 hsl hil
  exact q1 _ H1 ι1 R2 P2
theorem gsy_expr (h : GEY X W ex m) (hs : swapsWith ex none pos.line X.env = pure false := by rfl) : GSY X W (.Expr ex pos) (yDrop m) := PS.imp (ps_expr h hs) fun T σ H q => by
  obtain ⟨ι, e, S, z, e', S', R0, hm, q⟩ := q
  refine bindES R0 hm q fun r e1 S1 v H1 ι1 R1 P1 r1 f1 h1 q1 => ?_
  obtain ⟨fl, e2, S2, h2, hz⟩ := yl_eq h1
  cases h2
  cases hz
  exact q1 σ H1 ι1 R1 P1
theorem gsy_raise {C : Addr} {f x : Str} {k : Nat} {m : M R} {p pc : Pos} (hc : X.calm = true) (tk : Takes X W) (Cl : XCls X.prog X.w X.K X.mg X.base k x C f) (hr : Room (k + 1) X.A) (hg : Gl X x) (he : GE X ex m) (hdb : (x == ("__debug__" : Str)) = false := by decide)
    (hst : starEach [ex] X.env = (false, eval ex X.env) :: starEach [] X.env := by rfl) (hpl : (backTo pc (starEach ([] : List Expr) X.env)).any (·.1) = false := by rfl) : GSY X W (.Raise (some (.Call (.Name x p) [ex] [] pc)) none pos) (yRaise C f m) := by
  obtain ⟨fI, fd, ps, i1, i2, F, hb⟩ := Cl.ini
  refine PS.imp (ps_raise (W := W) hc tk (pmk_oex Cl.T i1 i2 F hr hb .nil (fun _ _ _ _ _ _ _ z => z.elim) hg Cl.mg_ (pa_cons (hs := hst) he pa_nil) hdb hst hpl)) fun T σ H q => ?_
  obtain ⟨ι, e, S, z, e', S', R0, hm, q⟩ := q
  obtain ⟨r, e1, S1, h1, hm⟩ := bnd_eq hm
  cases r with
  | d x0 =>
    cases hm
    refine ⟨ι, e, S, _, _, _, R0, h1, fun v H1 ι1 R1 P1 r1 _ => ?_⟩
    refine ⟨by simp, fun a ha => ⟨a, v, by simp, upd_same, fun dx hdx hne => ⟨rfl, dx, [(f, v)], upd_same, by rw [upd_ne hne, upd_same], ?_, ?_⟩⟩⟩
    · rw [upd_ne hne] at hdx; exact hdx
    · rw [upd_ne hne] at hdx
      rw [xd_back ha hne]
      obtain ⟨R2, P2, _, _⟩ := R1.new (u := .xd [(f, v)]) hdx
      refine q σ _ ι1 (some dx) R2 (P1.trans P2) ⟨[v], upd_same, rfl, .cons (RD.mono P2.stay P2.pre _ _ r1) .nil⟩ fun dd hd => ?_
      cases hd
      exact P1.back hdx
  | _ => cases hm
theorem pmk_own0 {C : Addr} {bmB : List Value} {B newId initId : String} {x : Str} {p : Pos} (F : ExcBaseFacts B newId initId bmB) (q : PySem.W.excIn X.K C bmB newId = true) (gC : X.mg x = some (.ref C)) (kC : PySem.W.keepIn X.K (.ref C) = true) (r : Raises X (.ref C)) (hg : Gl X x)
    (hdb : (x == ("__debug__" : Str)) = false := by decide) : PMk X (.Call (.Name x p) [] [] pos) (fun _ H Q => Q (.ref C) none H) := fun pins s σ H Q I h => by
  refine wpAny_Call_Name_kw (ld_glob I hg gC (PySem.W.callWith_K0 I.kIn kC ?_) hdb)
  show wpAny _ _ (call (.ref C) []) _ _ _
  obtain ⟨bm, N, nm, qn, bs, hdct, sn, sub, ab, col, dd, k0, k1, k2, k3, k5, mN, hC, hN, hni, T⟩ := exc_obj I.kIn q
  exact wpAny_call_exc_subT F T hC hN hni (fun h' a hm => mk_of I hm r h (I.hok.gone hm.new)) (by show 0 ≤ sizeLine; omega)
/-- an exception class of the text without an __init__ of its own -/
structure XCl0 (K : PySem.W.Frag) (mg : Str → Option Value) (x : Str) (C : Addr) : Prop where
  ex : ∃ (bmB : List Value) (B newId initId : String), ExcBaseFacts B newId initId bmB ∧ PySem.W.excIn K C bmB newId = true
  mg_ : mg x = some (.ref C)
  kp : PySem.W.keepIn K (.ref C) = true
  sub : PySem.W.subIn K (.ref C) (.type "BaseException") = some true
  ty : PySem.W.typeIn K (.ref C) = some (.type "type")
theorem gsy_raise0 {C : Addr} {x : Str} {p pc : Pos} (hc : X.calm = true) (tk : Takes X W) (Cl : XCl0 X.K X.mg x C) (hg : Gl X x) (hdb : (x == ("__debug__" : Str)) = false := by decide) : GSY X W (.Raise (some (.Call (.Name x p) [] [] pc)) none pos) (yRaise0 C) := by
  obtain ⟨bmB, B, newId, initId, F, q0⟩ := Cl.ex
  refine PS.imp (ps_raise (W := W) hc tk (pmk_own0 F q0 Cl.mg_ Cl.kp (raises_own Cl.sub Cl.ty) hg hdb)) fun T σ H q => ?_
  obtain ⟨ι, e, S, z, e', S', R0, hm, q⟩ := q
  cases hm
  exact q σ H ι none R0 .refl ⟨rfl, rfl⟩ fun dd hd => by cases hd
end
section
variable {X : Cx} {W : WX} {o ex : Expr} {es : List Expr} {mo : M R} {ms : M (List R ⊕ Ex)} {apos pos : Pos}
end
end G

set_option Elab.async false
set_option linter.all false
set_option maxRecDepth 1000000
set_option maxHeartbeats 4000000
/-! GPG: try .. except .. as n: what is caught becomes a thing that stays. -/
namespace G
variable [Wld]
open PySem PySem.Spec PyProof.Rows L2
section
variable {X : Cx} {pins : List (Addr × PySem.Obj)} {σ : L2.St} {H : Hp} {s : Shared}
/-- what nobody tracked is tracked, as it stands -/
theorem Inv.track {a : Addr} {oa : PySem.Obj} (I : Inv X pins σ H s) (ha : s.heap.get? a = some oa) (hn : H a = none) (n0 : X.s_0.heap.get? a = none) (nL : a ≠ X.env.locals) (nC : ∀ x c, X.env.cells.lookup x = some c → c ≠ a) (nP : ∀ p ∈ X.pn ++ pins, p.1 ≠ a) :
    Inv X pins σ (upd H a (.frz oa (.own a))) s := by
  have ne : ∀ b u, H b = some u → b ≠ a := fun b u e z => by rw [z, hn] at e; cases e
  refine ⟨I.ok, I.os, I.bare, ⟨I.base.keep, I.base.slot, fun b q e n hx => ?_, I.base.there, fun b xs e => ?_, fun b q xs e => ?_, fun b ps e => ?_⟩, I.loc, I.cell, ?_, fun x c e => ?_, fun p hp => ?_, fun b q e => ?_, I.len⟩
  · have hb : b ≠ a := fun z => by rw [z, n0] at e; cases e
    rw [upd_ne hb]; exact I.base.free b q e n hx
  · have z := I.base.tups b xs e
    rw [upd_ne (ne _ _ z)]; exact z
  · have z := I.base.frzs b q xs e
    rw [upd_ne (ne _ _ z)]; exact z
  · obtain ⟨m, z⟩ := I.base.tbls b ps e
    exact ⟨m, by rw [upd_ne (ne _ _ z)]; exact z⟩
  · rw [upd_ne nL.symm]; exact I.free
  · rw [upd_ne (nC x c e)]; exact I.freeC x c e
  · obtain ⟨e, n, r⟩ := I.pin p hp
    exact ⟨e, by rw [upd_ne (nP p hp)]; exact n, r⟩
  · by_cases hb : b = a
    · subst hb
      rw [upd_same] at e; cases e
      exact ⟨ha, _, ha⟩
    · rw [upd_ne hb] at e
      exact (I.hok b q e).stay (fun c v _ k => k) (fun c k => by rw [upd_ne (ne _ _ k)]; exact k) fun c xs k => by rw [upd_ne (ne _ _ k)]; exact k
/-- the dict of an exception is locked -/
theorem Inv.lockX {a : Addr} {fs : List (Str × V)} (I : Inv X pins σ H s) (h : H a = some (.xd fs)) : ∃ od, s.heap.get? a = some od ∧ Inv X pins σ (upd H a (.frz od (.xd fs))) s := by
  have hx : ObjOk X.prog X.w H s.heap a (.xd fs) := I.hok a _ h
  obtain ⟨mA, ⟨od, es, ep, ho, hr⟩, hf⟩ := id hx
  have ne : ∀ b u, H b = some u → (∀ fs, u ≠ .xd fs) → b ≠ a := fun b u e n z => by rw [z, h] at e; exact n fs (Option.some.inj e).symm
  have nn : ∀ b, H b = none → b ≠ a := fun b e z => by rw [z, h] at e; cases e
  refine ⟨od, ho, I.ok, I.os, I.bare, ⟨I.base.keep, I.base.slot, fun b q e n hx => ?_, I.base.there, fun b xs e => ?_, fun b q xs e => ?_, fun b ps e => ?_⟩, I.loc, I.cell, ?_, fun x c e => ?_, fun p hp => ?_, fun b q e => ?_, I.len⟩
  · have z := I.base.free b q e n hx
    rw [upd_ne (nn _ z)]; exact z
  · have z := I.base.tups b xs e
    rw [upd_ne (ne _ _ z fun _ y => nomatch y)]; exact z
  · have z := I.base.frzs b q xs e
    rw [upd_ne (ne _ _ z fun _ y => nomatch y)]; exact z
  · obtain ⟨m, z⟩ := I.base.tbls b ps e
    exact ⟨m, by rw [upd_ne (ne _ _ z fun _ y => nomatch y)]; exact z⟩
  · rw [upd_ne (nn _ I.free)]; exact I.free
  · rw [upd_ne (nn _ (I.freeC x c e))]; exact I.freeC x c e
  · obtain ⟨e, n, r⟩ := I.pin p hp
    exact ⟨e, by rw [upd_ne (nn _ n)]; exact n, r⟩
  · by_cases hb : b = a
    · subst hb
      rw [upd_same] at e; cases e
      exact ⟨ho, mA, ⟨od, es, ep, ho, hr⟩, hf⟩
    · rw [upd_ne hb] at e
      exact (I.hok b q e).stay (fun c v _ k => k) (fun c k => by rw [upd_ne (ne _ _ k fun _ y => nomatch y)]; exact k) fun c xs k => by rw [upd_ne (ne _ _ k fun _ y => nomatch y)]; exact k
end
/-- what is tracked behind the catch: the exception at a, its dict at d -/
def Caught (H : Hp) (a : Addr) (oa : PySem.Obj) : Option Addr → Hp → Prop
  | none, H2 => H2 = upd H a (.frz oa (.own a))
  | some dd, H2 => ∃ fs od, H dd = some (.xd fs) ∧ H2 = upd (upd H dd (.frz od (.xd fs))) a (.frz oa (.own a))
/-- what the clause wishes of an exception of the body -/
def wTrk (K : PySem.W.Frag) (c : Value) (i : Nat) (ts : Addr → TS) (Wout : WX) (T : Ends) : WX := fun cls d σ H => ∃ b, PySem.W.exmOne K cls c = some b ∧
  (b = true → (∀ dd, d = some dd → ∃ fs, H dd = some (.xd fs)) ∧ ∀ a oa H2, H a = none → Zc cls d oa → (∃ vs, oa.data = .fields vs) → Caught H a oa d H2 → ts a { nx := fun σ' H' => T.nx (σ'.set i none) H', rt := T.rt, bk := fun σ' H' => T.bk (σ'.set i none) H', ct := fun σ' H' => T.ct (σ'.set i none) H' } (σ.set i (some (.ref a))) H2) ∧ (b = false → Wout cls d σ H)
section
variable {X : Cx} {x n : Str} {c : Value} {i : Nat} {body suite : List Stmt} {b₀ : Stmt} {np pos pos' : Pos} {tb : WX → TS} {ts : Addr → TS} {Wout : WX}
theorem ps_try_trk (hs : X.stack = X.env :: X.outer) (hf : X.env.frame = some X.env.locals) (hN : X.N.Nodup) (hi : X.N[i]? = some n) (hln : X.env.kindOf n = some .local) (hc : Names X x c) (hex : X.ex = []) (tk : Takes X Wout)
    (hb : ∀ (W : WX) (pn : List (Addr × PySem.Obj)) (xe : Value → Shared → Prop), Takes (X.tr pn xe) W → PassesOwn (model X.prog X.w) X.A X.env xe → PSs (X.tr pn xe) body (tb W))
    (hsu : ∀ (a : Addr) (pn : List (Addr × PySem.Obj)), PSs (X.suite a pn) (b₀ :: suite) (ts a)) :
    PS X (.Try body [.ExceptHandler (some (.Name x np)) (some n) (b₀ :: suite) pos'] [] [] pos) (fun T σ H => tb (wTrk X.K c i ts Wout T) T σ H) := by
  refine ⟨fun pins s σ H T I h => ?_⟩
  have ok := I.ok
  have hfr : X.A.frames = some (X.env :: X.outer) := by rw [ok.frames, hs]
  refine wpAny_Try_except ?_
  refine wpAny_mono ((hb (wTrk X.K c i ts Wout T) (X.pn ++ pins) (fun e s₁ => wpAny (model X.prog X.w) X.A (noteFrame e X.env) (fun _ s₂ => wpAny (model X.prog X.w) X.A (setFlight e none) (fun _ s₃ =>
    wpAny (model X.prog X.w) X.A (handleBy e X.env [.ExceptHandler (some (.Name x np)) (some n) (b₀ :: suite) pos']) (SP X pins T) X.xe s₃) X.xe s₂) X.xe s₁) (fun u s' xx => ?_) PassesOwn.looking).run [] s σ H T (I.toTry _) h) (fun f s1 hsp => ?_) (fun e s1 he => he)
  · obtain ⟨a, B, sI, pins', σ', H', cls, d, rfl, J', nb, up, sky, na, os, ag, b, hb1, hyes, hno⟩ := xx
    have J : Inv X pins σ' H' sI := J'.ofTry ok
    have sky' : Sky B (X.env :: X.outer) a (Zc cls d) X.env.locals s'.heap := by rw [← hs]; exact sky
    show wpAny (model X.prog X.w) X.A (noteFrame (.ref a) X.env) _ _ _
    refine Sky.land Zc.steady hfr hf sky' fun h3 fl3 up3 => ?_
    have J3 : Inv X pins σ' H' { s' with heap := h3 } := J.landed nb fl3.1 (up.trans up3) os ag
    obtain ⟨oe3, vs3, he3, hz3, hd3⟩ := fl3.there
    have nfr : a ∉ frs (X.env :: X.outer) := fun hm => by
      obtain ⟨_, o', e', hnf⟩ := fl3.2.2.1.mem hm
      rw [he3] at e'; cases e'
      exact hnf _ hd3
    have nL : a ≠ X.env.locals := fun z => nfr (List.mem_filterMap.mpr ⟨X.env, List.mem_cons_self, by rw [hf, z]⟩)
    have nF : a ∉ X.fs := fun hm => by
      obtain ⟨e, he, q⟩ := List.mem_filterMap.mp hm
      exact nfr (List.mem_filterMap.mpr ⟨e, List.mem_cons_of_mem _ he, q⟩)
    have aI : sI.heap.get? a = none := by
      cases q : sI.heap.get? a with
      | none => rfl
      | some o =>
        have z := nb a o q (by rw [hs]; exact nfr)
        rw [fl3.2.1] at z; cases z
    have S3 := J3.suite he3 hd3 na nL nF
    refine wpAny_handleBy_cons (codeAny_handlers_test ?_) (by intro q; cases q)
    have LT : PySem.W.Looks (model X.prog X.w) h3 (typeOf (.ref a)) cls := fun A Q E s k q => wpAny_typeOf_ref (k _ _ he3) (by rw [hz3.1]; exact q)
    have LM := PySem.W.exm_one (M := model X.prog X.w) (J3.kIn) LT hb1
    have test : ∀ {Q : Value → Shared → Prop} {E : Value → Shared → Prop}, Q c { s' with heap := h3 } → wpAny (model X.prog X.w) (X.A.mark (some (.ref a))) (eval (.Name x np) X.env) Q E { s' with heap := h3 } := fun {Q E} q => by
      obtain ⟨hg, hdbg, hm | ⟨hm, hv, hnn⟩⟩ := hc
      · exact ld_glob (X := X.suite a ((a, oe3) :: (X.pn ++ pins))) S3 hg hm q hdbg
      · exact ld_blt (X := X.suite a ((a, oe3) :: (X.pn ++ pins))) S3 hg hm hv q hnn hdbg
    refine test (LM.here ?_)
    cases b with
    | true =>
      refine codeAny_handlers_suite_as ?_
      refine HandSPX.lands_againZ fl3 fun h4 fl4 up4 => ?_
      have J4 : Inv X pins σ' H' { s' with heap := h4 } := J.landed nb fl4.1 ((up.trans up3).trans up4) os ag
      obtain ⟨oe4, vs4, he4, hz4, hd4⟩ := fl4.there
      obtain ⟨hdd, hgo⟩ := hyes rfl
      -- tracked from here on
      have a0 : X.s_0.heap.get? a = none := by
        cases q : X.s_0.heap.get? a with
        | none => rfl
        | some o =>
          obtain ⟨o', e⟩ := J.base.there a o q (by rw [hex]; exact fun z => nomatch z)
          rw [aI] at e; cases e
      have aC : ∀ x c, X.env.cells.lookup x = some c → c ≠ a := fun x c e z => by
        obtain ⟨v, o, ho, _⟩ := J.cell x c e
        rw [z, aI] at ho; cases ho
      have aP : ∀ p ∈ X.pn ++ pins, p.1 ≠ a := fun p hp z => by
        have e := (J.pin p hp).1
        rw [z, aI] at e; cases e
      have trk : ∃ H2, Caught H' a oe4 d H2 ∧ Inv X pins σ' H2 { s' with heap := h4 } := by
        cases d with
        | none => exact ⟨_, rfl, Inv.track J4 he4 na a0 nL aC aP⟩
        | some dd =>
          obtain ⟨fs, hfs⟩ := hdd dd rfl
          obtain ⟨od, hod, J5⟩ := Inv.lockX J4 hfs
          have hne : a ≠ dd := fun z => by rw [z, hfs] at na; cases na
          exact ⟨_, ⟨fs, od, hfs, rfl⟩, Inv.track J5 he4 (by rw [upd_ne hne]; exact na) a0 nL aC aP⟩
      obtain ⟨H2, hH2, J5⟩ := trk
      have S5 : Inv (X.suite a (X.pn ++ pins)) [] σ' H2 { s' with heap := h4 } :=
        ⟨J5.ok.suite _ _, J5.os, J5.bare, J5.base, J5.loc, J5.cell, J5.free, J5.freeC, fun p hp => J5.pin p (by rw [List.append_nil] at hp; exact hp), J5.hok, J5.len⟩
      refine store_ok (X := X.suite a (X.pn ++ pins)) (v := .ref a) S5 hN hi (.inl hln) rfl (fun s5 S6 => ?_) (.inr hln)
      refine wpAny_mono ((hsu a (X.pn ++ pins)).run [] s5 _ H2 _ S6 (hgo a oe4 H2 na hz4 ⟨_, hd4⟩ hH2)) (fun f s6 hsp => ?_) (fun _ _ z => False.elim z)
      have end_ : ∀ {σ6 : L2.St} {H6 : Hp} {Q : Shared → Prop}, Inv (X.suite a (X.pn ++ pins)) [] σ6 H6 s6 → (∀ s7, Inv X pins (σ6.set i none) H6 s7 → Q s7) →
          wpAny (model X.prog X.w) X.A (do bindName X.env n .none; unbindBehindTheSuite X.env n pos') (fun _ s7 => Q s7) X.xe s6 := fun {σ6 H6 Q} S6 hq =>
        gone_ok ⟨ok, S6.os, S6.bare, S6.base, S6.loc, S6.cell, S6.free, S6.freeC, fun p hp => S6.pin p (by rw [List.append_nil]; exact hp), S6.hok, S6.len⟩ hN hi hln hq
      cases f with
      | next =>
        obtain ⟨σ6, H6, S6, q6⟩ := hsp
        exact end_ S6 fun s7 J7 => ⟨_, _, J7, q6⟩
      | brk =>
        obtain ⟨σ6, H6, S6, q6⟩ := hsp
        exact end_ S6 fun s7 J7 => ⟨_, _, J7, q6⟩
      | cont =>
        obtain ⟨σ6, H6, S6, q6⟩ := hsp
        exact end_ S6 fun s7 J7 => ⟨_, _, J7, q6⟩
      | ret u =>
        obtain ⟨v6, σ6, H6, S6, r6, q6⟩ := hsp
        exact end_ S6 fun s7 J7 => ⟨_, _, _, J7, r6, q6⟩
    | false =>
      show wpAny _ X.A (handleBy (.ref a) X.env []) _ _ _
      refine wpAny_handleBy_nil ?_
      obtain ⟨k1, k2, k3, oe, vs, T0, oT, ts', he, hz, hd, h1, hr⟩ := id fl3
      unfold PySem.passOn
      refine wpAny_bind (wpAny_field he hd h1 ?_)
      rw [if_neg (show ¬ ((Value.ref T0 == Value.none) = true) from by simp)]
      have fin : wpAny (model X.prog X.w) X.A (setFlight (.ref a) X.env.frame) (fun _ s4 => wpAny (model X.prog X.w) X.A (throw (.ref a) : Sem Flow) (SP X pins T) X.xe s4) X.xe { s' with heap := h3 } := by
        rw [hf]
        refine HandSPX.setFlight_upZ fl3 fun h4 hh4 up4 => wpAny_throw (tk _ _ ?_)
        exact ⟨a, B, sI, pins, σ', H', cls, d, rfl, J, nb, (up.trans up3).trans up4, .inr (.inr (by rw [hs]; exact hh4)), na, os, ag, hno rfl⟩
      first
        | exact wpAny_bind (wpAny_pure (wpAny_bind fin))
        | exact wpAny_bind fin
  · cases f with
    | next =>
      obtain ⟨σ', H', J', q⟩ := hsp
      exact wpAny_execs_nil ⟨σ', H', J'.ofTry ok, q⟩
    | brk =>
      obtain ⟨σ', H', J', q⟩ := hsp
      exact ⟨σ', H', J'.ofTry ok, q⟩
    | cont =>
      obtain ⟨σ', H', J', q⟩ := hsp
      exact ⟨σ', H', J'.ofTry ok, q⟩
    | ret u =>
      obtain ⟨v, σ', H', J', r, q⟩ := hsp
      exact ⟨v, σ', H', J'.ofTry ok, r, q⟩
end
end G

set_option Elab.async false
set_option linter.all false
set_option maxRecDepth 1000000
set_option maxHeartbeats 4000000
/-! GPH: the mirror of try .. except; isinstance and fields of what was caught. -/
namespace G
variable [Wld]
open PySem PySem.Spec PyProof.Rows L2
section
variable {K : PySem.W.Frag} {H H1 H2 : Hp} {ι ι1 : List Addr} {σ σ1 : SV} {e e1 : En} {S1 : Sto} {a : Addr} {o : O} {u : HO} {fs : List (Str × V)}
theorem RO.nxd (h : RO K H ι a o) : H a ≠ some (.xd fs) := fun hu => by
  cases o with
  | tab q => obtain ⟨_, ps, h1, _⟩ := h; rw [h1] at hu; cases hu
  | ins c ns ds => obtain ⟨dx, xs, h1, _⟩ := h; rw [h1] at hu; cases hu
  | lst ds => obtain ⟨xs, h1, h2⟩ := h; rw [h1] at hu; cases hu
  | dct kvs => obtain ⟨xs, h1, h2⟩ := h; rw [h1] at hu; cases hu
  | kx kvs => obtain ⟨o, ws, h1, _⟩ := h; rw [h1] at hu; cases hu
  | kd kvs =>
    obtain ⟨o, es, ep, xs, h⟩ := h
    have h1 := h.at_
    rw [h1] at hu
    cases hu
theorem Rel.nxd {S : Sto} (R0 : Rel K H ι σ e S) (h : H a = some (.xd fs)) : a ∉ ι ∧ ¬ Obj σ e a := by
  refine ⟨fun z => ?_, fun ⟨i, s, h1, h2, h3⟩ => ?_⟩
  · obtain ⟨n, hn⟩ := List.getElem?_of_mem z
    have hlt := (List.getElem?_eq_some_iff.mp hn).1
    rw [R0.ilen] at hlt
    exact (R0.st n _ a (List.getElem?_eq_getElem hlt) hn).nxd h
  · obtain ⟨w, hw, hs⟩ := R0.sl i s h1
    rw [h3] at hw; cases hw
    obtain ⟨b, o', u, e1, ro, hu, _⟩ := RSl.there hs h2
    cases e1
    exact ro.nxd h
theorem Rel.caught {x : Ex} {d : Option Addr} {oa : PySem.Obj} (R1 : Rel K H1 ι1 σ1 e1 S1) (P1 : Post H ι σ e H1 ι1 σ1 e1) (xa : XAt K H1 ι1 x d) (fr : ∀ dd, d = some dd → H dd = none) (na : H1 a = none) (hz : Zc (.ref x.C) d oa) (hv : ∃ vs, oa.data = .fields vs) (hc : Caught H1 a oa d H2) :
    Rel K H2 ι1 σ1 e1 S1 ∧ Post H ι σ e H2 ι1 σ1 e1 ∧ RD K H2 ι1 (.ref a) (.exc x.C x.ns x.ds) := by
  obtain ⟨C, ns, ds⟩ := x
  cases d with
  | none =>
    obtain ⟨rfl, rfl⟩ : ns = [] ∧ ds = [] := xa
    obtain rfl : H2 = _ := hc
    obtain ⟨R2, P2, _, _⟩ := R1.new (u := .frz oa (.own a)) na
    exact ⟨R2, P1.trans P2, .exc (xs := []) upd_same hz hv rfl rfl .nil⟩
  | some dd =>
    obtain ⟨xs, hd, hl, rx⟩ := xa
    obtain ⟨fs, od, hfs, rfl⟩ := hc
    obtain rfl : ns.zip xs = fs := by rw [hd] at hfs; cases hfs; rfl
    obtain ⟨n1, n2⟩ := R1.nxd hd
    have st : Stay H1 (upd H1 dd (.frz od (.xd (ns.zip xs)))) := Stay.mut hd (fun _ z => nomatch z) (fun _ _ z => nomatch z) ⟨fun _ z => (nomatch z), fun _ _ z => (nomatch z), fun _ z => (by unfold LamX.CodeO at z; cases z), lmu_of fun _ z => nomatch z⟩ (lmu_of fun _ z => nomatch z)
    have R2 := R1.other st n1 n2
    have P2 := P1.fresh (fr dd rfl) st
    have hne : a ≠ dd := fun z => by rw [z, hd] at na; cases na
    obtain ⟨R3, P3, _, _⟩ := R2.new (a := a) (u := .frz oa (.own a)) (by rw [upd_ne hne]; exact na)
    refine ⟨R3, P2.trans P3, .exc upd_same hz hv ⟨od, by rw [upd_ne hne.symm, upd_same]⟩ hl ?_⟩
    exact RDs.mono P3.stay P3.pre _ _ (RDs.mono st ⟨[], by simp⟩ _ _ rx)
end
/-- try: mb; except .. as the slot i: h; cs: the classes that the clause catches -/
def mTryY (cs : List Addr) (i : Nat) (mb : M (Fl ⊕ Ex)) (h : M Fl) : M Fl := bnd mb fun fx => match fx with
  | .inl fl => pur fl
  | .inr x => fun e S => if x.C ∈ cs ∧ i < e.length then (match h (e.set i (some (.d (.exc x.C x.ns x.ds)))) S with
    | some (.nx, e', S') => some (.nx, e'.set i none, S')
    | some (.bk, e', S') => some (.bk, e'.set i none, S')
    | some (.ct, e', S') => some (.ct, e'.set i none, S')
    | some (.rt r, e', S') => some (.rt r, e', S')
    | none => none) else none
section
variable {X : Cx} {vx n : Str} {c : Value} {i : Nat} {body suite : List Stmt} {b₀ : Stmt} {np pos pos' : Pos} {mb : M (Fl ⊕ Ex)} {h : M Fl} {cs : List Addr}
theorem gs_tryY {Wout : WX} (hs : X.stack = X.env :: X.outer) (hf : X.env.frame = some X.env.locals) (hN : X.N.Nodup) (hi : X.N[i]? = some n) (hln : X.env.kindOf n = some .local) (hc : Names X vx c) (hex : X.ex = []) (tk : Takes X Wout) (hx : ∀ C ∈ cs, PySem.W.exmOne X.K (.ref C) c = some true)
    (hb : ∀ (W : WX) (pn : List (Addr × PySem.Obj)) (xe : Value → Shared → Prop), Takes (X.tr pn xe) W → PassesOwn (model X.prog X.w) X.A X.env xe → GSYs (X.tr pn xe) W body mb)
    (hsu : ∀ (a : Addr) (pn : List (Addr × PySem.Obj)), GSs (X.suite a pn) (b₀ :: suite) h) :
    GS X (.Try body [.ExceptHandler (some (.Name vx np)) (some n) (b₀ :: suite) pos'] [] [] pos) (mTryY cs i mb h) := by
  refine PS.imp (ps_try_trk (ts := fun _ => tGS X.K h) (tb := fun W => tGSY X.K W mb) hs hf hN hi hln hc hex tk hb hsu) fun T σ H q => ?_
  obtain ⟨ι, e, S, fl, e', S', R0, hm, q⟩ := q
  obtain ⟨fx, e1, S1, h1, hm⟩ := bnd_eq hm
  refine ⟨ι, e, S, fx, e1, S1, R0, h1, ?_⟩
  rcases fx with fl1 | x
  · cases hm
    cases fl <;> exact q
  · intro σ1 H1 ι1 d R1 P1 xa fr
    have hm' : (if x.C ∈ cs ∧ i < e1.length then (match h (e1.set i (some (.d (.exc x.C x.ns x.ds)))) S1 with
      | some (.nx, e', S') => some (Fl.nx, e'.set i none, S')
      | some (.bk, e', S') => some (.bk, e'.set i none, S')
      | some (.ct, e', S') => some (.ct, e'.set i none, S')
      | some (.rt r, e', S') => some (.rt r, e', S')
      | none => none) else none) = some (fl, e', S') := hm
    split at hm'
    case isFalse => cases hm'
    rename_i hcl
    refine ⟨true, hx _ hcl.1, fun _ => ⟨fun dd hd => ?_, fun a oa H2 na hz hv hca => ?_⟩, fun z => by cases z⟩
    · subst hd
      obtain ⟨xs, hd, _⟩ := xa
      exact ⟨_, hd⟩
    obtain ⟨R2, P2, rd⟩ := R1.caught P1 xa fr na hz hv hca
    have R3 := R2.setSl (s := .d (.exc x.C x.ns x.ds)) hcl.2 rd (fun _ z => nomatch z) fun _ _ z => z.elim
    have P3 := P2.setSl (s := .d (.exc x.C x.ns x.ds)) (v := .ref a) hcl.2 R2.len fun _ _ z => z.elim
    split at hm'
    · rename_i e2 S2 hh
      cases hm'
      refine ⟨ι1, _, S1, _, e2, _, R3, hh, fun σ3 H3 ι3 R4 P4 => ?_⟩
      obtain ⟨R5, P5⟩ := R4.blur i none
      exact q _ H3 ι3 R5 (P3.trans (P4.trans P5))
    · rename_i e2 S2 hh
      cases hm'
      refine ⟨ι1, _, S1, _, e2, _, R3, hh, fun σ3 H3 ι3 R4 P4 => ?_⟩
      obtain ⟨R5, P5⟩ := R4.blur i none
      exact q _ H3 ι3 R5 (P3.trans (P4.trans P5))
    · rename_i e2 S2 hh
      cases hm'
      refine ⟨ι1, _, S1, _, e2, _, R3, hh, fun σ3 H3 ι3 R4 P4 => ?_⟩
      obtain ⟨R5, P5⟩ := R4.blur i none
      exact q _ H3 ι3 R5 (P3.trans (P4.trans P5))
    · rename_i r e2 S2 hh
      cases hm'
      refine ⟨ι1, _, S1, _, _, _, R3, hh, fun w σ3 H3 ι3 R4 P4 r4 => ?_⟩
      exact q w σ3 H3 ι3 R4 (P3.trans P4) (r4.back P3)
    · cases hm'
end
/-! ### what was caught, looked at -/
theorem exc_inst {K : PySem.W.Frag} {H : Hp} {ι : List Addr} {v : V} {C : Addr} {ns : List Str} {ds : List D} {X : Cx} {pins : List (Addr × PySem.Obj)} {s : Shared} {σ : L2.St} (I : Inv X pins σ H s) (h : RD K H ι v (.exc C ns ds)) :
    ∃ a oe od xs, v = .ref a ∧ PySem.W.InstAt s.heap a oe C od ∧ ns.length = ds.length ∧ RDs K H ι xs ds ∧ ∀ f w, (ns.zip xs).lookup f = some w → ∃ o u, od = some o ∧ PySem.W.lookIn f o = some (some u) ∧ L2.RelV w u := by
  cases h with
  | @exc a _ oa d xs _ _ h1 hz hv hx hl rx =>
    obtain ⟨ho, _⟩ := I.hok a _ h1
    have nc : ∀ (oe : PySem.Obj), (∃ vs, oe.data = .fields vs) → PySem.W.notCls oe = true := fun oe ⟨vs, e⟩ => by unfold PySem.W.notCls; rw [e] <;> rfl
    cases d with
    | none =>
      obtain hx : ns.zip xs = [] := hx
      exact ⟨a, oa, none, xs, rfl, ⟨ho, hz.1, nc _ hv, by rw [hz.2]; trivial⟩, hl, rx, fun f w e => by rw [hx] at e; cases e⟩
    | some dd =>
      obtain ⟨od, hd⟩ := hx
      have hok := I.hok dd _ hd
      obtain ⟨hod, mA, hns, hr⟩ := hok
      obtain ⟨o2, ho2, hl2⟩ := lookIn_ns hns
      rw [hod] at ho2
      cases ho2
      refine ⟨a, oa, some od, xs, rfl, ⟨ho, hz.1, nc _ hv, by rw [hz.2]; exact hod⟩, hl, rx, fun f w e => ?_⟩
      obtain ⟨u, hu, ru⟩ := RelO.some_of (v := w) (o := mA f) (by rw [← e]; exact hr f)
      exact ⟨od, u, rfl, by rw [hl2, hu], ru⟩
def rIsY (K : PySem.W.Frag) : List V → Hp → VK → Prop := fun xs H Q => (∃ ι x C ns ds c cv b, xs = [x, c] ∧ RD K H ι x (.exc C ns ds) ∧ ExcC K C ∧ ClsV c cv ∧ PySem.W.kitOne K (.ref C) cv = some b ∧ Q (.bl b) H) ∨
  ∃ ι x C ns ds tp cs us b, xs = [x, .ref tp] ∧ RD K H ι x (.exc C ns ds) ∧ ExcC K C ∧ H tp = some (.tup cs) ∧ Paired ClsV cs us ∧ PySem.W.kitAny K (.ref C) us = some b ∧ Q (.bl b) H
theorem call_isY {X : Cx} : CallR X (.builtin "isinstance") (rIsY X.K) := by
  intro pins s σ H xs us Q I r h
  have kx : ∀ {a C : Addr} {oe : PySem.Obj} {od : Option PySem.Obj}, ExcC X.K C → PySem.W.InstAt s.heap a oe C od → PySem.W.KitX X.K (.ref a) (.ref C) (fun h => PySem.W.InstAt h a oe C od) := fun {a C oe od} T _ => by
    obtain ⟨cd, hcd, _⟩ := PySem.W.any_some T.hd
    exact PySem.W.kitx_exc (x := a) (ox := oe) (od := od) (by rw [hcd]; rfl) T.hg T.hk T.hs T.ha T.hn T.ht T.hm
  rcases h with ⟨ι, x, C, ns, ds, c, cv, b, rfl, hx, T, k, e, q⟩ | ⟨ι, x, C, ns, ds, tp, cs, ws, b, rfl, hx, T, hT, k, e, q⟩
  · obtain ⟨a, oe, od, _, rfl, J, _⟩ := exc_inst I hx
    obtain ⟨u1, u2, rfl, r1, r2⟩ := vals2 r
    cases r1
    have e2 := k.eq r2
    subst e2
    exact PySem.W.kia_one (kx T J) I.kIn J e (fun z => nomatch z) fun tk => ⟨.bl b, H, I.tok tk, rfl, q⟩
  · obtain ⟨a, oe, od, _, rfl, J, _⟩ := exc_inst I hx
    obtain ⟨u1, u2, rfl, r1, r2⟩ := vals2 r
    cases r1
    cases (show u2 = Value.ref tp from r2)
    obtain ⟨_, its, rv, o, h1, h2, n, h3⟩ := (show ObjOk X.prog X.w H s.heap tp (.tup cs) from I.hok tp _ hT)
    have e3 := ClsV.all k rv
    subst e3
    obtain ⟨oc, od', dt, sl⟩ := o
    simp only at h2 h3
    subst h2 h3
    exact PySem.W.kia_tup (kx T J) I.kIn J h1 e (fun z => nomatch z) fun tk => ⟨.bl b, H, I.tok tk, rfl, q⟩
/-- kt: what isinstance tells of an exception of such a class -/
def gIsY (kt : Addr → Option Bool) (r : R) : M R := fun e S => match r with
  | .d (.exc C _ _) => (kt C).map fun b => (.d (.bl b), e, S)
  | _ => none
def tCs (cs : List V) : TA := fun _ H Q => Q cs H
section
variable {X : Cx} {te : Expr} {m : M R} {ce : Expr} {ces : List Expr} {p pos p2 : Pos}
theorem ge_isY {c : V} {cv : Value} {kt : Addr → Option Bool} (hi : Gl X "isinstance") (hn : X.mg "isinstance" = none) (hm : GE X te m) (hc : PE X ce (tC c)) (hcv : ClsV c cv) (hk : ∀ C b, kt C = some b → ExcC X.K C ∧ PySem.W.kitOne X.K (.ref C) cv = some b)
    (hs : starEach [te, ce] X.env = (false, eval te X.env) :: starEach [ce] X.env := by rfl) (hs2 : starEach [ce] X.env = (false, eval ce X.env) :: starEach [] X.env := by rfl) (hpl : (backTo pos (starEach [ce] X.env)).any (·.1) = false := by rfl) :
    GE X (.Call (.Name "isinstance" p) [te, ce] [] pos) (bnd m (gIsY kt)) :=
  PE.imp (pe_callB call_isY hi hn (by decide +kernel) (pa_cons (hs := hs) hm (pa_cons (hs := hs2) hc pa_nil)) (he := hs) (hpl := hpl)) fun σ H Q q => by
    obtain ⟨ι, e, S, r, e', S', R0, hm, q⟩ := q
    obtain ⟨r1, e1, S1, h1, hm⟩ := bnd_eq hm
    unfold gIsY at hm
    split at hm
    case h_2 => cases hm
    rename_i C ns ds
    obtain ⟨b, hb, hz⟩ := Option.map_eq_some_iff.mp hm
    cases hz
    refine ⟨ι, e, S, _, _, _, R0, h1, fun v H1 ι1 R1 P1 rv _ => ?_⟩
    obtain ⟨k1, k2⟩ := hk C b hb
    exact .inl ⟨ι1, v, C, ns, ds, c, cv, b, rfl, rv, k1, hcv, k2, q _ H1 ι1 R1 P1 (.bl b) trivial⟩
theorem pcs_nil : PA X [] (tCs []) := PA.imp pa_nil fun σ H Q q => q
theorem pcs_cons {c : V} {cs : List V} (h : PE X ce (tC c)) (hr : PA X ces (tCs cs)) (hs : starEach (ce :: ces) X.env = (false, eval ce X.env) :: starEach ces X.env := by rfl) : PA X (ce :: ces) (tCs (c :: cs)) := PA.imp (pa_cons (hs := hs) h hr) fun σ H Q q => q
theorem ge_isYT {k2} {cs : List V} {us : List Value} {kt : Addr → Option Bool} (hi : Gl X "isinstance") (hn : X.mg "isinstance" = none) (hm : GE X te m) (hc : PA X ces (tCs cs)) (hcv : Paired ClsV cs us) (hl : cs.length ≤ 1000) (hk : ∀ C b, kt C = some b → ExcC X.K C ∧ PySem.W.kitAny X.K (.ref C) us = some b)
    (hs : starEach [te, .Tuple ces k2 p2] X.env = (false, eval te X.env) :: starEach [.Tuple ces k2 p2] X.env := by rfl) (hs2 : starEach [.Tuple ces k2 p2] X.env = (false, eval (.Tuple ces k2 p2) X.env) :: starEach [] X.env := by rfl) (hpl : (backTo pos (starEach [.Tuple ces k2 p2] X.env)).any (·.1) = false := by rfl) :
    GE X (.Call (.Name "isinstance" p) [te, .Tuple ces k2 p2] [] pos) (bnd m (gIsY kt)) :=
  PE.imp (pe_callB call_isY hi hn (by decide +kernel) (pa_cons (hs := hs) hm (pa_cons (hs := hs2) (pe_tup hc) pa_nil)) (he := hs) (hpl := hpl)) fun σ H Q q => by
    obtain ⟨ι, e, S, r, e', S', R0, hm, q⟩ := q
    obtain ⟨r1, e1, S1, h1, hm⟩ := bnd_eq hm
    unfold gIsY at hm
    split at hm
    case h_2 => cases hm
    rename_i C ns ds
    obtain ⟨b, hb, hz⟩ := Option.map_eq_some_iff.mp hm
    cases hz
    refine ⟨ι, e, S, _, _, _, R0, h1, fun v H1 ι1 R1 P1 rv _ => ?_⟩
    obtain ⟨k1, k2⟩ := hk C b hb
    refine ⟨Nat.le_of_lt (small1000 hl), fun tp hp => ?_⟩
    obtain ⟨R2, P2, _⟩ := R1.new (u := .tup cs) hp
    exact .inr ⟨ι1, v, C, ns, ds, tp, cs, us, b, rfl, RD.mono P2.stay P2.pre _ _ rv, k1, upd_same, hcv, k2, q _ _ ι1 R2 (P1.trans P2) (.bl b) trivial⟩
/-- e.f of an exception of one of these classes -/
def gAttY (cs : List Addr) (f : Str) (r : R) : M R := fun e S => match r with
  | .d (.exc C ns ds) => if C ∈ cs then ((ns.zip ds).lookup f).map fun d => (.d d, e, S) else none
  | _ => none
theorem ge_attY {f : Str} {cs : List Addr} (hx : ∀ C ∈ cs, XfC X.K C ∧ PySem.W.findIn X.K (.ref C) f = some none) (he : GE X te m) (hb : attributeBase te f X.env (eval te X.env) = eval te X.env := by rfl) : GE X (.Attribute te f pos) (bnd m (gAttY cs f)) := by
  refine ⟨fun pins s σ H Q I q => attr_of hb (thn (he.run pins s σ H (fun v H1 => ∃ ι C ns ds w, RD X.K H1 ι v (.exc C ns ds) ∧ C ∈ cs ∧ (ns.zip ds).lookup f = some w ∧ ∀ z, RD X.K H1 ι z w → Q z H1) I ?_) fun u s1 hh => ?_)⟩
  · obtain ⟨ι, e, S, r, e', S', R0, hm, q⟩ := q
    obtain ⟨r1, e1, S1, h1, hm⟩ := bnd_eq hm
    unfold gAttY at hm
    split at hm
    case h_2 => cases hm
    rename_i C ns ds
    split at hm
    case isFalse => cases hm
    rename_i hC
    obtain ⟨w, hw, hz⟩ := Option.map_eq_some_iff.mp hm
    cases hz
    refine ⟨ι, e, S, _, _, _, R0, h1, fun v H1 ι1 R1 P1 rv _ => ⟨ι1, C, ns, ds, w, rv, hC, hw, fun z rz => q z H1 ι1 R1 P1 rz trivial⟩⟩
  · obtain ⟨v, H1, I1, rx, ι, C, ns, ds, w, rv, hC, hw, q⟩ := hh
    obtain ⟨a, oe, od, xs, rfl, J, hl, rxs, hlk⟩ := exc_inst I1 rv
    obtain rfl : u = Value.ref a := rx
    obtain ⟨z, hz, rz⟩ := lookup_rd rxs hw
    obtain ⟨o, u2, rfl, hu, ru⟩ := hlk f z hz
    obtain ⟨T, hno⟩ := hx C hC
    exact HandSPX.exc_get I1.kIn J T.ga T.gg T.exC (PySem.W.findObj_own T.hdC hno rfl hu) (handed_of ru) ⟨z, H1, I1.tok _, ru, q z rz⟩
end
end G

set_option Elab.async false
set_option linter.all false
set_option maxRecDepth 1000000
set_option maxHeartbeats 4000000
/-! GPI: the calculus of what may raise. -/
namespace G
variable [Wld]
open PySem PySem.Spec PyProof.Rows L2
def Yp (f : FnY) (sls : List Sl) (S : Sto) (Q : Rt ⊕ Ex → Sto → Prop) : Prop := ∃ r S', f sls S = some (r, S') ∧ Q r S'
theorem Yp.mono {f : FnY} {sls : List Sl} {S : Sto} {Q Q' : Rt ⊕ Ex → Sto → Prop} (h : Yp f sls S Q) (w : ∀ a S, Q a S → Q' a S) : Yp f sls S Q' := let ⟨a, S', h1, h2⟩ := h; ⟨a, S', h1, w _ _ h2⟩
/-- behind what may raise, f -/
def byQ {α β : Type} (f : α → M (β ⊕ Ex)) (F : β ⊕ Ex → En → Sto → Prop) : α ⊕ Ex → En → Sto → Prop
  | .inl a, e, S => Wp (f a) e S F
  | .inr x, e, S => F (.inr x) e S
/-- behind a call -/
def cyQ (F : R ⊕ Ex → En → Sto → Prop) (e : En) : Rt ⊕ Ex → Sto → Prop
  | .inl r, S => F (.inl r.r) e S
  | .inr x, S => F (.inr x) e S
def flY (Q : Rt ⊕ Ex → Sto → Prop) : Fl ⊕ Ex → En → Sto → Prop
  | .inl (.rt r), _, S => Q (.inl r) S
  | .inl .nx, _, S => Q (.inl (.d .non)) S
  | .inr x, _, S => Q (.inr x) S
  | _, _, _ => False
def ysQ (b : M (Fl ⊕ Ex)) (F : Fl ⊕ Ex → En → Sto → Prop) : Fl ⊕ Ex → En → Sto → Prop
  | .inl .nx, e, S => Wp b e S F
  | z, e, S => F z e S
section
variable {α β : Type} {e : En} {S : Sto}
section
variable {f : α → M (β ⊕ Ex)} {F : β ⊕ Ex → En → Sto → Prop} {a : α} {x : Ex}
theorem byQ_l : byQ f F (.inl a) e S = Wp (f a) e S F := rfl
theorem byQ_r : byQ f F (.inr x) e S = F (.inr x) e S := rfl
theorem wp_bnY {m : M (α ⊕ Ex)} : Wp (bnY m f) e S F ↔ Wp m e S (byQ f F) := by
  unfold bnY
  rw [wp_bnd]
  have h : (fun z e1 S1 => Wp (match z with | .inl a => f a | .inr x => pur (.inr x)) e1 S1 F) = byQ f F := by
    funext z e1 S1
    rcases z with a | x
    · rfl
    · exact propext wp_pur
  exact iff_of_eq (congrArg (Wp m e S) h)
theorem wp_yl {m : M β} : Wp (yl m) e S F ↔ Wp m e S fun a => F (.inl a) := by
  unfold yl
  rw [wp_bnd]
  simp only [wp_pur]
end
section
variable {F : R ⊕ Ex → En → Sto → Prop} {x : Ex} {r : Rt}
theorem cyQ_l : cyQ F e (.inl r) S = F (.inl r.r) e S := rfl
theorem cyQ_r : cyQ F e (.inr x) S = F (.inr x) e S := rfl
theorem wp_callY {n : Nat} {f : FnY} {rs : List R} : Wp (callY n f rs) e S F ↔ rs.length = n ∧ ∃ sls, toArgs rs e = some sls ∧ Yp f sls S (cyQ F e) := by
  constructor
  · rintro ⟨z, e', S', h, q⟩
    unfold callY at h
    split at h
    · rename_i hn
      refine ⟨hn, ?_⟩
      dsimp only at h
      split at h
      · rename_i sls hs
        refine ⟨sls, hs, ?_⟩
        split at h
        · rename_i r0 S2 h2
          cases h
          exact ⟨_, _, h2, q⟩
        · rename_i x0 S2 h2
          cases h
          exact ⟨_, _, h2, q⟩
        · cases h
      · cases h
    · cases h
  · rintro ⟨hn, sls, hs, r, S2, h2, q⟩
    unfold Wp callY
    rw [if_pos hn, hs]
    dsimp only
    rw [h2]
    rcases r with r | x
    · exact ⟨_, _, _, rfl, q⟩
    · exact ⟨_, _, _, rfl, q⟩
theorem wp_mCallY {n : Nat} {f : FnY} {ms : M (List R)} : Wp (mCallY n f ms) e S F ↔ Wp ms e S fun rs e1 S1 => rs.length = n ∧ ∃ sls, toArgs rs e1 = some sls ∧ Yp f sls S1 (cyQ F e1) := by
  unfold mCallY
  rw [wp_bnd]
  simp only [wp_callY]
theorem wp_methY {c n : Nat} {y : Str} {dd : List D} {f : FnY} {mo : M R} {ms : M (List R)} : Wp (mMethY c y n dd f mo ms) e S F ↔ Wp mo e S fun r e1 S1 => ∃ i, r = .d (.ref i) ∧ ∃ ns ds, S1[i]? = some (.ins c ns ds) ∧ y ∉ ns ∧
    Wp ms e1 S1 fun rs e2 S2 => (G.R.d (.ref i) :: (rs ++ dd.map G.R.d)).length = n ∧ ∃ sls, toArgs (.d (.ref i) :: (rs ++ dd.map G.R.d)) e2 = some sls ∧ Yp f sls S2 (cyQ F e2) := by
  constructor
  · rintro ⟨a, e', S', h, q⟩
    obtain ⟨r, e1, S1, h1, hm⟩ := bnd_eq h
    refine ⟨r, e1, S1, h1, ?_⟩
    split at hm
    · rename_i n' ns ds hi
      split at hm
      · cases hm
      · rename_i hx
        obtain ⟨rfl, h3⟩ := insOf_eq hi
        refine ⟨n', rfl, ns, ds, h3, hx, ?_⟩
        have h5 : Wp (bnd ms fun rs => callY n f (.d (.ref n') :: (rs ++ dd.map G.R.d))) e1 S1 F := ⟨_, _, _, hm, q⟩
        rw [wp_bnd] at h5
        simpa only [wp_callY] using h5
    · cases hm
  · rintro ⟨r, e1, S1, h1, n', rfl, ns, ds, h3, hx, h4⟩
    have h5 : Wp (bnd ms fun rs => callY n f (.d (.ref n') :: (rs ++ dd.map G.R.d))) e1 S1 F := by
      rw [wp_bnd]
      simpa only [wp_callY] using h4
    obtain ⟨a, e2, S2, h6, q⟩ := h5
    refine ⟨a, e2, S2, ?_, q⟩
    unfold mMethY bnd
    rw [h1]
    simp only [insOf, h3, if_true, if_neg hx]
    exact h6
def mkQ (F : R ⊕ Ex → En → Sto → Prop) (e : En) (n : Nat) : Rt ⊕ Ex → Sto → Prop
  | .inl (.d .non), S => F (.inl (.d (.ref n))) e S
  | .inr x, S => F (.inr x) e S
  | _, _ => False
end
section
variable {F : Fl ⊕ Ex → En → Sto → Prop} {a b : M (Fl ⊕ Ex)} {x : Ex} {r : Rt} {Q : Rt ⊕ Ex → Sto → Prop}
theorem flY_rt : flY Q (.inl (.rt r)) e S = Q (.inl r) S := rfl
theorem flY_nx : flY Q (.inl .nx) e S = Q (.inl (.d .non)) S := rfl
theorem flY_x : flY Q (.inr x) e S = Q (.inr x) S := rfl
theorem yp_runY {nl : Nat} {b : M (Fl ⊕ Ex)} {sls : List Sl} (h : Wp b (sls.map some ++ List.replicate nl none) S (flY Q)) : Yp (runY nl b) sls S Q := by
  obtain ⟨fx, e', S', h1, q⟩ := h
  unfold Yp runY
  rw [h1]
  rcases fx with (_ | _ | _ | r) | x
  · exact ⟨_, _, rfl, q⟩
  · exact q.elim
  · exact q.elim
  · exact ⟨_, _, rfl, q⟩
  · exact ⟨_, _, rfl, q⟩
theorem ysQ_nx : ysQ b F (.inl .nx) e S = Wp b e S F := rfl
theorem ysQ_rt : ysQ b F (.inl (.rt r)) e S = F (.inl (.rt r)) e S := rfl
theorem ysQ_x : ysQ b F (.inr x) e S = F (.inr x) e S := rfl
theorem wp_ySeq : Wp (ySeq a b) e S F ↔ Wp a e S (ysQ b F) := by
  unfold ySeq
  rw [wp_bnd]
  have h : (fun fx e1 S1 => Wp (match fx with | .inl .nx => b | z => pur z) e1 S1 F) = ysQ b F := by
    funext fx e1 S1
    rcases fx with (_ | _ | _ | r) | x
    · rfl
    all_goals exact propext wp_pur
  exact iff_of_eq (congrArg (Wp a e S) h)
theorem wp_yIf {mt : M Bool} : Wp (yIf mt a b) e S F ↔ Wp mt e S fun x e1 S1 => if x = true then Wp a e1 S1 F else Wp b e1 S1 F := by
  unfold yIf
  rw [wp_bnd]
  simp only [wp_ite]
theorem wp_yRet {m : M (R ⊕ Ex)} : Wp (yRet m) e S F ↔ Wp m e S (byQ (fun r => yl (toRt r)) F) := wp_bnY
theorem wp_ySet {i : Nat} {m : M (R ⊕ Ex)} : Wp (ySet i m) e S F ↔ Wp m e S (byQ (fun r => yl (setS i r)) F) := wp_bnY
theorem wp_yDrop {m : M (R ⊕ Ex)} : Wp (yDrop m) e S F ↔ Wp m e S (byQ (fun _ => yl (pur .nx)) F) := wp_bnY
theorem wp_yPar2 {i j : Nat} {ma mb : M (R ⊕ Ex)} : Wp (yPar2 i j ma mb) e S F ↔ Wp ma e S (byQ (fun x => bnY mb fun y => yl (mSeq (setS i x) (setS j y))) F) := wp_bnY
theorem wp_yRaise {C : Addr} {f : Str} {m : M R} : Wp (yRaise C f m) e S F ↔ Wp m e S fun r e1 S1 => ∃ x, r = .d x ∧ F (.inr ⟨C, [f], [x]⟩) e1 S1 := by
  unfold yRaise
  rw [wp_bnd]
  have h : (fun r e1 S1 => Wp (match r with | R.d x => pur (.inr ⟨C, [f], [x]⟩) | _ => stk) e1 S1 F) = fun r e1 S1 => ∃ x, r = .d x ∧ F (.inr ⟨C, [f], [x]⟩) e1 S1 := by
    funext r e1 S1
    cases r with
    | d x => exact propext ⟨fun h => ⟨x, rfl, wp_pur.mp h⟩, fun ⟨y, hy, q⟩ => (by cases hy; exact wp_pur.mpr q)⟩
    | _ => exact propext ⟨fun ⟨_, _, _, h, _⟩ => (by cases h), fun ⟨_, hy, _⟩ => (by cases hy)⟩
  exact iff_of_eq (congrArg (Wp m e S) h)
theorem wp_yRaise0 {C : Addr} : Wp (yRaise0 C) e S F ↔ F (.inr ⟨C, [], []⟩) e S := wp_pur
end
section
variable {F : R ⊕ Ex → En → Sto → Prop} {ma mb : M (R ⊕ Ex)} {ms : M (List R ⊕ Ex)}
theorem wp_mBinY {g : R → R → M R} : Wp (mBinY g ma mb) e S F ↔ Wp ma e S (byQ (fun x => bnY mb fun y => yl (g x y)) F) := wp_bnY
theorem wp_mIfY {c : M Bool} {a b : M α} {F : α → En → Sto → Prop} : Wp (mIfY c a b) e S F ↔ Wp c e S fun x e1 S1 => if x = true then Wp a e1 S1 F else Wp b e1 S1 F := by
  unfold mIfY
  rw [wp_bnd]
  simp only [wp_ite]
theorem wp_mNilY {F : List R ⊕ Ex → En → Sto → Prop} : Wp mNilY e S F ↔ F (.inl []) e S := by
  unfold mNilY
  rw [wp_yl, wp_pur]
theorem wp_mConsY {F : List R ⊕ Ex → En → Sto → Prop} {b : M (List R ⊕ Ex)} : Wp (mConsY ma b) e S F ↔ Wp ma e S (byQ (fun x => bnY b fun xs => yl (pur (x :: xs))) F) := wp_bnY
theorem wp_mTupY : Wp (mTupY ms) e S F ↔ Wp ms e S (byQ (fun rs => yl (dispOf (fun ds => .d (.tup ds)) rs)) F) := wp_bnY
theorem wp_mCallDY {n : Nat} {dd : List D} {f : Fn} : Wp (mCallDY n dd f ms) e S F ↔ Wp ms e S (byQ (fun rs => yl (mCall n f (pur (rs ++ dd.map R.d)))) F) := wp_bnY
theorem wp_disp {rs : List R} {f : List D → R} {F : R → En → Sto → Prop} : Wp (dispOf f rs) e S F ↔ ∃ ds, dsOf rs = some ds ∧ ds.length ≤ 1000 ∧ F (f ds) e S := by
  constructor
  · rintro ⟨a, e', S', h, q⟩
    obtain ⟨ds, h1, h2, hz⟩ := dispOf_eq h
    cases hz
    exact ⟨ds, h1, h2, q⟩
  · rintro ⟨ds, h1, h2, q⟩
    exact ⟨_, _, _, by unfold dispOf; rw [h1]; dsimp only; rw [if_pos h2], q⟩
/-- a comprehension's items, one behind the other: I k S: k of them made; what may raise tells X -/
theorem wp_compLY {vs : List Nat} {t : Tgt} {elt : M (R ⊕ Ex)} {F : List D ⊕ Ex → En → Sto → Prop} (I : List D → List D → Sto → Prop) : ∀ {ds acc : List D} {e : En} {S : Sto}, I acc ds S →
    (∀ acc d ds S, I acc (d :: ds) S → acc.length < 1000000 ∧ ∃ e1, t d e = some e1 ∧ Wp elt e1 S fun z e3 S3 => wipeE e3 vs = e ∧ ((∃ y, z = .inl (.d y) ∧ I (acc ++ [y]) ds S3) ∨ ∃ x, z = .inr x ∧ F (.inr x) e S3)) →
    (∀ acc S, I acc [] S → ∀ ys, acc = ys → F (.inl ys) e S) → Wp (compLY vs t elt [] acc.length ds) e S fun z e' S' => (match z with | .inl ys => F (.inl (acc ++ ys)) e' S' | .inr x => F (.inr x) e' S')
  | [], acc, e, S, hi, _, hd => ⟨.inl [], e, S, by unfold compLY; rw [if_pos (wat_nil _ _)], by simpa using hd acc S hi acc rfl⟩
  | d :: ds, acc, e, S, hi, hs, hd => by
    obtain ⟨hk, e1, h1, z, e3, S3, h3, hw, hz⟩ := hs acc d ds S hi
    rcases hz with ⟨y, rfl, hi3⟩ | ⟨x, rfl, q⟩
    · obtain ⟨z4, e4, S4, h4, q4⟩ := wp_compLY (acc := acc ++ [y]) I hi3 hs hd
      rw [List.length_append] at h4
      rw [← hw] at h4
      rcases z4 with ys | x
      · refine ⟨.inl (y :: ys), e4, S4, ?_, by simpa using q4⟩
        unfold compLY
        rw [if_pos ⟨wat_nil _ _, hk⟩, h1]
        dsimp only
        rw [h3]
        dsimp only
        rw [show acc.length + 1 = acc.length + [y].length from rfl, h4]
      · refine ⟨.inr x, e4, S4, ?_, q4⟩
        unfold compLY
        rw [if_pos ⟨wat_nil _ _, hk⟩, h1]
        dsimp only
        rw [h3]
        dsimp only
        rw [show acc.length + 1 = acc.length + [y].length from rfl, h4]
    · refine ⟨.inr x, e, S3, ?_, q⟩
      unfold compLY
      rw [if_pos ⟨wat_nil _ _, hk⟩, h1]
      dsimp only
      rw [h3]
      dsimp only
      rw [hw]
end
/-! try, what was caught -/
def tyY (F : Fl → En → Sto → Prop) (i : Nat) : Fl → En → Sto → Prop
  | .rt r, e, S => F (.rt r) e S
  | .nx, e, S => F .nx (e.set i none) S
  | .bk, e, S => F .bk (e.set i none) S
  | .ct, e, S => F .ct (e.set i none) S
def trQ (cs : List Addr) (F : Fl → En → Sto → Prop) (i : Nat) (h : M Fl) : Fl ⊕ Ex → En → Sto → Prop
  | .inl fl, e, S => F fl e S
  | .inr x, e, S => (x.C ∈ cs ∧ i < e.length) ∧ Wp h (e.set i (some (.d (.exc x.C x.ns x.ds)))) S (tyY F i)
theorem wp_mTryY {cs : List Addr} {i : Nat} {mb : M (Fl ⊕ Ex)} {h : M Fl} {F : Fl → En → Sto → Prop} (q : Wp mb e S (trQ cs F i h)) : Wp (mTryY cs i mb h) e S F := by
  unfold mTryY
  rw [wp_bnd]
  refine q.mono fun fx e1 S1 z => ?_
  rcases fx with fl | x
  · exact wp_pur.mpr z
  · obtain ⟨hl, fl, e2, S2, h2, z⟩ := z
    unfold Wp
    dsimp only
    rw [if_pos hl, h2]
    cases fl <;> exact ⟨_, _, _, rfl, z⟩
theorem wp_isY {kt : Addr → Option Bool} {C : Addr} {ns : List Str} {ds : List D} {Q : R → En → Sto → Prop} {b : Bool} (h : kt C = some b) (q : Q (.d (.bl b)) e S) : Wp (gIsY kt (.d (.exc C ns ds))) e S Q := ⟨_, _, _, by unfold gIsY; dsimp only; rw [h]; rfl, q⟩
theorem wp_attY {cs : List Addr} {f : Str} {C : Addr} {ns : List Str} {ds : List D} {Q : R → En → Sto → Prop} {d : D} (h : C ∈ cs) (hl : (ns.zip ds).lookup f = some d) (q : Q (.d d) e S) : Wp (gAttY cs f (.d (.exc C ns ds))) e S Q := ⟨_, _, _, by unfold gAttY; dsimp only; rw [if_pos h, hl]; rfl, q⟩
end
end G

set_option Elab.async false
set_option linter.all false
set_option maxRecDepth 1000000
set_option maxHeartbeats 4000000
/-! GPJ: classes whose __init__ has keyword-only parameters with defaults. -/
namespace G
variable [Wld]
open PySem PySem.Spec PyProof.Rows L2
section
variable {X : Cx} {k n : Nat} {f C : Addr} {fd : FuncData} {ps ks : List Str} {sp : Sp} {dvs : List V} {ds : List Value} {E : XK} {x : Str} {p pos : Pos} {kws : List Keyword} {tk : TA} {g : List Value → List Value → List Value} {gV : List V → List V → List V}
theorem pe_makeG0 (M : Mk X.K C f) (F : FnG X.prog X.w X.K X.mg X.base k f fd ps sp) (hr : Room (k + 1) X.A) (hgd : X.A.guards = some []) (hg : Gl X x) (hm : X.mg x = some (.ref C)) (hb : Binds X.K fd ps ds) (hd : Vals dvs ds) (hx : Passes CX0 X E)
    (hdb : (x == ("__debug__" : Str)) = false := by decide) : PE X (.Call (.Name x p) [] [] pos) (tMake C sp dvs E tNil) := by
  refine ⟨fun pins s σ H Q I h => ?_⟩
  refine wpAny_Call_Name_kw (ld_glob I hg hm ?_ hdb)
  exact PySem.W.callWith_K0 I.kIn M.kp (run_makeG (us := []) (vs := []) M F hr hgd hb hd hx I .nil h)
theorem run_makeKG {pins : List (Addr × PySem.Obj)} {σ : SV} {H : Hp} {s : Shared} {Q : VK} {us ws : List Value} {vs zs : List V} (M : Mk X.K C f) (F : FnG X.prog X.w X.K X.mg X.base k f fd ps sp) (hr : Room (k + 1) X.A) (hg : X.A.guards = some []) (hb : KBn X.K fd ps (n + 1) ks g gV) (hx : Passes CX0 X E)
    (I : Inv X pins σ H s) (r : Vals vs us) (rz : Vals zs ws) (l1 : vs.length = n) (l2 : zs.length = ks.length)
    (h : ∀ x dx, H x = none → H dx = none → dx ≠ x → sp (gV (.ref x :: vs) zs) (upd (upd H dx (.own x)) x (.ins C dx [])) (fun v H2 => v = .non ∧ Q (.ref x) H2) E) :
    wpAny (model X.prog X.w) X.A (call (.ref C) us (ks.zip ws)) (EP X pins σ Q) X.xe s := by
  have hq := h (s.heap.objs.size + 1) s.heap.objs.size (I.hok.fresh (Nat.le_succ _)) (I.hok.fresh (Nat.le_refl _)) (Nat.ne_of_lt (Nat.lt_succ_self _))
  have I2 := Inv.made (C := C) I
  have r1 : Vals (V.ref (s.heap.objs.size + 1) :: vs) (Value.ref (s.heap.objs.size + 1) :: us) := .cons rfl r
  have r2 := hb.rel r1 rz
  have n1 : (Value.ref (s.heap.objs.size + 1) :: us).length = n + 1 := by
    rw [List.length_cons, ← r.length, l1]
  refine wpAny_call (make_map (f := f) I.kIn M.makes M.init (beq_iff_eq.mp M.fn) (codeAny_mono (F.run _ X.stack _ _ ⟨Value.ref (s.heap.objs.size + 1) :: us, ks.zip ws⟩ (g (Value.ref (s.heap.objs.size + 1) :: us) ws) _ _ E (hr.make C us (ks.zip ws)) (under_guards hg)
    (I2.env0.make C us (ks.zip ws)) (hb.to _ (Value.ref (s.heap.objs.size + 1) :: us) ws I2.kIn n1 (rz.length.symm.trans l2)) r2 hq) fun r s' hq' => ?_))
  match r, hq' with
  | .error e, hq' => exact hx pins σ _ _ e s' I2 hq'
  | .ok (.ret u), hq' =>
    obtain ⟨v, H', I3, rv, ev, q3⟩ := I2.after hq'
    subst ev
    exact ⟨rv, ⟨V.ref (s.heap.objs.size + 1), H', I3, rfl, q3⟩⟩
  | .ok .next, hq' => exact hq'.elim
  | .ok .brk, hq' => exact hq'.elim
  | .ok .cont, hq' => exact hq'.elim
theorem pe_makeKG0 (M : Mk X.K C f) (F : FnG X.prog X.w X.K X.mg X.base k f fd ps sp) (hr : Room (k + 1) X.A) (hgd : X.A.guards = some []) (hg : Gl X x) (hm : X.mg x = some (.ref C)) (hb : KBn X.K fd ps 1 ks g gV) (hx : Passes CX0 X E) (hkw : PK X kws tk)
    (hall : (backToKw pos (keywordEach kws X.env)).all (·.1.isSome) = true := by rfl) (hks : (backToKw pos (keywordEach kws X.env)).filterMap (·.1) = ks := by rfl) (hdb : (x == ("__debug__" : Str)) = false := by decide)
    (hpl : ((backTo pos (starEach [] X.env)).any (·.1) || (backToKw pos (keywordEach kws X.env)).any (·.1.isNone)) = false := by rfl) :
    PE X (.Call (.Name x p) [] kws pos) (tMakeK C 0 ks.length sp gV E tNil tk) := by
  refine ⟨fun pins s σ H Q I h => ?_⟩
  refine wpAny_Call_Name_kw (ld_glob I hg hm ?_ hdb)
  refine PySem.W.callWith_KW0 (h₀ := X.base) I.ok.mod.kin M.kp hall ?_ hpl
  refine thn (hkw.run pos pins s σ H _ I h) fun ws s2 ⟨zs, H2, I2, rz, l1, l2, q2⟩ => ⟨I2.kIn, ?_⟩
  rw [hks]
  exact run_makeKG (us := []) (vs := []) M F hr hgd hb hx I2 .nil rz rfl l2 q2
end
/-- a class of the text whose __init__ has defaults dd / keywords ks -/
structure GMkD (P : Program) (w : World) (K : PySem.W.Frag) (mg : Str → Option Value) (base : Heap) (k : Nat) (c : Nat) (x : Str) (n : Nat) (dd : List D) (m : Fn) : Prop where
  ex : ∃ f fd ps ds dvs, FnG P w K mg base k f fd ps (spG K n m) ∧ Mk K (Wld.cls c) f ∧ mg x = some (.ref (Wld.cls c)) ∧ Binds K fd ps ds ∧ Vals dvs ds ∧ ∀ H ι, RDs K H ι dvs dd
theorem GMkD.mono {P : Program} {w : World} {K : PySem.W.Frag} {mg : Str → Option Value} {base : Heap} {j k c n : Nat} {x : Str} {dd : List D} {m : Fn} (F : GMkD P w K mg base j c x n dd m) (h : j ≤ k) : GMkD P w K mg base k c x n dd m := by
  obtain ⟨f, fd, ps, ds, dvs, ok, hm⟩ := F.ex
  exact ⟨⟨f, fd, ps, ds, dvs, ok.mono h, hm⟩⟩
structure GMkK (P : Program) (w : World) (K : PySem.W.Frag) (mg : Str → Option Value) (base : Heap) (k : Nat) (c : Nat) (x : Str) (ks : List Str) (m : Fn) : Prop where
  ex : ∃ f fd ps g gV, FnG P w K mg base k f fd ps (spG K (ks.length + 1) m) ∧ Mk K (Wld.cls c) f ∧ mg x = some (.ref (Wld.cls c)) ∧ KBn K fd ps 1 ks g gV ∧ ∀ vs zs, gV vs zs = vs ++ zs
theorem GMkK.mono {P : Program} {w : World} {K : PySem.W.Frag} {mg : Str → Option Value} {base : Heap} {j k c : Nat} {x : Str} {ks : List Str} {m : Fn} (F : GMkK P w K mg base j c x ks m) (h : j ≤ k) : GMkK P w K mg base k c x ks m := by
  obtain ⟨f, fd, ps, g, gV, ok, hm⟩ := F.ex
  exact ⟨⟨f, fd, ps, g, gV, ok.mono h, hm⟩⟩
def makeR (c n : Nat) (f : Fn) (rs : List R) : M R := fun e S => if rs.length + 1 = n then match toArgs rs e with
    | some sls => match f (.d (.ref S.length) :: sls) (S ++ [.ins c [] []]) with
      | some (.d .non, S') => some (.d (.ref S.length), e, S')
      | _ => none
    | none => none
  else none
theorem mMake_eq {c n : Nat} {f : Fn} {ms : M (List R)} : mMake c n f ms = bnd ms (makeR c n f) := rfl
section
variable {X : Cx} {k n c : Nat} {f : Fn} {x : Str} {mk : M (List R)} {p pos : Pos} {kws : List Keyword} {ks : List Str} {dd : List D}
theorem make_sp {K : PySem.W.Frag} {H H1 : Hp} {ι ι1 : List Addr} {σ : SV} {e e1 e' : En} {S1 S' : Sto} {vs : List V} {rs : List R} {r : R} {Q : VK} {E : XK} (R1 : Rel K H1 ι1 σ e1 S1) (P1 : Post H ι σ e H1 ι1 σ e1) (r1 : RRs K H1 ι1 σ e1 vs rs) (hm : makeR c n f rs e1 S1 = some (r, e', S'))
    (q : ∀ v H' ι', Rel K H' ι' σ e' S' → Post H ι σ e H' ι' σ e' → RR K H' ι' σ e' v r → Fresh H v r → Q v H') :
    ∀ x dx, H1 x = none → H1 dx = none → dx ≠ x → spG K n f (.ref x :: vs) (upd (upd H1 dx (.own x)) x (.ins (Wld.cls c) dx [])) (fun v H2 => v = .non ∧ Q (.ref x) H2) E := by
  intro x dx hx hdx hne
  unfold makeR at hm
  split at hm
  · rename_i hn
    split at hm
    · rename_i sls hs
      split at hm
      · rename_i S2 hf
        cases hm
        obtain ⟨R2, P2, _, _⟩ := R1.new (u := .own x) hdx
        have hx2 : (upd H1 dx (.own x)) x = none := by rw [upd_ne hne.symm]; exact hx
        obtain ⟨R3, P3, n1, n2⟩ := R2.new (u := .ins (Wld.cls c) dx []) hx2
        have ro : RO K (upd (upd H1 dx (.own x)) x (.ins (Wld.cls c) dx [])) ι1 x (.ins c [] []) := ⟨dx, [], upd_same, rfl, .nil⟩
        obtain ⟨R4, P4⟩ := R3.box (P2.trans P3) ro n1 n2 hx
        have at_ : (ι1 ++ [x])[S1.length]? = some x := by rw [← R1.ilen]; simp
        refine ⟨by rw [List.length_cons, r1.length]; exact hn, ι1 ++ [x], .d (.ref S1.length) :: sls, S1 ++ [.ins c [] []], _, _, R4.s, .cons (.ref at_) (fun _ _ z => z.elim) (fun z => z) (R4.args (r1.post P4) hs), hf, fun v H2 ι2 R5 P5 r5 => ?_⟩
        obtain ⟨R6, P6⟩ := R4.called R5 P5
        have hv : v = .non := by
          have r5' : RD K H2 ι2 v .non := r5
          cases r5'
          rfl
        refine ⟨hv, q _ H2 ι2 R6 ((P1.trans P4).trans P6) (.ref ?_) trivial⟩
        obtain ⟨l, hl⟩ := P5.pre
        rw [hl, List.getElem?_append_left (by rw [List.length_append, R1.ilen]; simp)]
        exact at_
      · cases hm
    · cases hm
  · cases hm
theorem rrs_ds {K : PySem.W.Frag} {H : Hp} {ι : List Addr} {σ : SV} {e : En} {dvs : List V} {dd : List D} (h : RDs K H ι dvs dd) : RRs K H ι σ e dvs (dd.map R.d) := RRs.app .nil h
/-- C() -/
theorem ge_makeD0 (F : GMkD X.prog X.w X.K X.mg X.base k c x n dd f) (hr : Room (k + 1) X.A) (hgd : X.A.guards = some []) (hg : Gl X x) (hdb : (x == ("__debug__" : Str)) = false := by decide) :
    GE X (.Call (.Name x p) [] [] pos) (mMake c n f (pur (dd.map R.d))) := by
  obtain ⟨fa, fd, ps, ds, dvs, ok, M, hm, hb, hv, hd⟩ := F.ex
  refine PE.imp (pe_makeG0 M ok hr hgd hg hm hb hv pass0 hdb) fun σ H Q q => ?_
  obtain ⟨ι, e, S, r, e', S', R, hm, q⟩ := q
  rw [mMake_eq] at hm
  obtain ⟨rs, e1, S1, h1, hm⟩ := bnd_eq hm
  cases h1
  exact make_sp R .refl (rrs_ds (hd H ι)) hm q
/-- C(k = v, ..) -/
theorem ge_makeK (F : GMkK X.prog X.w X.K X.mg X.base k c x ks f) (hr : Room (k + 1) X.A) (hgd : X.A.guards = some []) (hg : Gl X x) (hkw : GK X kws mk) (hn2 : ∀ e S rs e' S', mk e S = some (rs, e', S') → rs.length = ks.length)
    (hall : (backToKw pos (keywordEach kws X.env)).all (·.1.isSome) = true := by rfl) (hks : (backToKw pos (keywordEach kws X.env)).filterMap (·.1) = ks := by rfl) (hdb : (x == ("__debug__" : Str)) = false := by decide)
    (hpl : ((backTo pos (starEach [] X.env)).any (·.1) || (backToKw pos (keywordEach kws X.env)).any (·.1.isNone)) = false := by rfl) :
    GE X (.Call (.Name x p) [] kws pos) (mMake c (ks.length + 1) f mk) := by
  obtain ⟨fa, fd, ps, g, gV, ok, M, hm, hb, hgV⟩ := F.ex
  refine PE.imp (pe_makeKG0 M ok hr hgd hg hm hb pass0 hkw hall hks hdb hpl) fun σ H Q q => ?_
  obtain ⟨ι, e, S, r, e', S', R, hm, q⟩ := q
  rw [mMake_eq] at hm
  obtain ⟨rs, e1, S1, h1, hm⟩ := bnd_eq hm
  refine ⟨ι, e, S, rs, e1, S1, R, h1, fun vs H1 ι1 R1 P1 r1 => ⟨rfl, by rw [r1.length]; exact hn2 _ _ _ _ _ h1, ?_⟩⟩
  intro x dx hx hdx hne
  rw [hgV]
  exact make_sp R1 P1 r1 hm q x dx hx hdx hne
end
structure DID (K : PySem.W.Frag) (mg : Str → Option Value) (c : Nat) (x qual : Str) (st : Stmt) (ps : List Str) (dd : List D) : Prop where
  ex : ∃ f fd ds dvs, Fun K "__init__" qual st f fd ∧ Mk K (Wld.cls c) f ∧ mg x = some (.ref (Wld.cls c)) ∧ Binds K fd ps ds ∧ Vals dvs ds ∧ ∀ H ι, RDs K H ι dvs dd
structure DIK (K : PySem.W.Frag) (mg : Str → Option Value) (c : Nat) (x qual : Str) (st : Stmt) (ps : List Str) (ks : List Str) : Prop where
  ex : ∃ f fd g gV, Fun K "__init__" qual st f fd ∧ Mk K (Wld.cls c) f ∧ mg x = some (.ref (Wld.cls c)) ∧ KBn K fd ps 1 ks g gV ∧ (∀ vs zs, gV vs zs = vs ++ zs) ∧ ks.length + 1 = ps.length
section
variable {P : Program} {w : World} {K : PySem.W.Frag} {mg : Str → Option Value} {base : Heap} {x qual : Str} {st : Stmt} {N ps : List Str} {k c : Nat} {dd : List D}
theorem GMkD.bodyOf {body : M Fl} (D : DID K mg c x qual st ps dd) (Sc : FnScope N ps (defScope st))
    (h : ∀ (f : Addr) (cdv : Value) (A : Around) (outer : List PySem.Env) (s : Shared) (H : Hp) (vs : List V) (Q : VK) (E : XK), Room k (A.deeper (envOfC qual (defScope st) s.heap.objs.size f cdv)) → (A.deeper (envOfC qual (defScope st) s.heap.objs.size f cdv)).guards = some [] →
      GSs (cxOf CX0 P w K mg base N qual (defScope st) f cdv A outer s H E).nox (defBody st) body) :
    GMkD P w K mg base (k + 1) c x ps.length dd (runF (N.length - ps.length) body) := by
  obtain ⟨f, fd, ds, dvs, F, hm, hg, hb, hv, hd⟩ := D.ex
  exact ⟨⟨f, fd, ps, ds, dvs, fn_ok F Sc (h f), hm, hg, hb, hv, hd⟩⟩
theorem GMkK.bodyOf {ks : List Str} {body : M Fl} (D : DIK K mg c x qual st ps ks) (Sc : FnScope N ps (defScope st))
    (h : ∀ (f : Addr) (cdv : Value) (A : Around) (outer : List PySem.Env) (s : Shared) (H : Hp) (vs : List V) (Q : VK) (E : XK), Room k (A.deeper (envOfC qual (defScope st) s.heap.objs.size f cdv)) → (A.deeper (envOfC qual (defScope st) s.heap.objs.size f cdv)).guards = some [] →
      GSs (cxOf CX0 P w K mg base N qual (defScope st) f cdv A outer s H E).nox (defBody st) body) :
    GMkK P w K mg base (k + 1) c x ks (runF (N.length - ps.length) body) := by
  obtain ⟨f, fd, g, gV, F, hm, hg, hb, hv, hd⟩ := D.ex
  exact ⟨⟨f, fd, ps, g, gV, by rw [hd]; exact fn_ok F Sc (h f), hm, hg, hb, hv⟩⟩
theorem DID.mk' {f : Addr} {fd : FuncData} {y : Str} {i : Int} (n : Nat) (F : FunD K "__init__" qual (defArgs st) (defBody st) (defScope st) [] [(y, .int i)] f fd) (Fu : Fun K "__init__" qual st f fd) (M : Mk K (Wld.cls c) f) (hm : mg x = some (.ref (Wld.cls c))) (hn : n + 1 = ps.length)
    (h : ∀ (D : Addr) (doc pm : Value) (an : Option Addr) (cdv ct : Value) (us ks : List Value), us.length = n → ks.length = 1 → KwChain D ([y].zip ks) (bindArgs (PySem.W.fnOf "__init__" qual (defArgs st) (defBody st) (defScope st) .none (.ref D) doc pm an cdv ct) ⟨us, []⟩) (ps.zip (us ++ ks))) : DID K mg c x qual st ps [.int i] := by
  obtain ⟨ds, hv, hb⟩ := F.binds0 (ps := ps) n (by simp) (by simpa using hn) (fun D doc pm an cdv ct us ks h1 h2 => h D doc pm an cdv ct us ks h1 (by simpa using h2))
  exact ⟨⟨f, fd, ds, _, Fu, M, hm, hb, hv, fun _ _ => .cons (.int i) .nil⟩⟩
theorem DIK.mk' {f : Addr} {fd : FuncData} {y : Str} {i : Int} (F : FunD K "__init__" qual (defArgs st) (defBody st) (defScope st) [] [(y, .int i)] f fd) (Fu : Fun K "__init__" qual st f fd) (M : Mk K (Wld.cls c) f) (hm : mg x = some (.ref (Wld.cls c))) (hn : 2 = ps.length)
    (h : ∀ (D : Addr) (doc pm : Value) (an : Option Addr) (cdv ct : Value) (us ws : List Value), us.length = 1 → ws.length = 1 → bindArgs (PySem.W.fnOf "__init__" qual (defArgs st) (defBody st) (defScope st) .none (.ref D) doc pm an cdv ct) ⟨us, [y].zip ws⟩ = pure (ps.zip (us ++ ws))) : DIK K mg c x qual st ps [y] := by
  obtain ⟨mv, hb⟩ := F.kbinds0 (ps := ps) 1 [y] [] (fun us _ ws => us ++ ws) (by simp) (fun q hq => by cases hq) (fun h1 _ h3 => h1.append h3) (fun D doc pm an cdv ct us mv ws h1 _ h3 => h D doc pm an cdv ct us ws h1 (by simpa using h3))
  exact ⟨⟨f, fd, _, _, Fu, M, hm, hb, fun _ _ => rfl, by simpa using hn⟩⟩
end
end G

set_option Elab.async false
set_option linter.all false
set_option maxRecDepth 1000000
set_option maxHeartbeats 4000000
/-! GPK: defs (no loop, no raise, no call of a def in them) that are called within an except suite. -/
namespace G
variable [Wld]
open PySem PySem.Spec PyProof.Rows L2
structure RoomC (k : Nat) (A : Around) : Prop where
  dp : A.depth + 3 * k + 5 < recursionLimit
  un : A.units + 16 * k + 200 < cLine
theorem RoomC.mono {j k : Nat} {A : Around} (r : RoomC k A) (h : j ≤ k) : RoomC j A := ⟨by have := r.dp; omega, by have := r.un; omega⟩
theorem RoomC.deeper {k : Nat} {A : Around} (r : RoomC (k + 1) A) (env : PySem.Env) : RoomC k (A.deeper env) :=
  ⟨by have := r.dp; show A.depth + 1 + 3 * k + 5 < _; omega, by have := r.un; show A.units + 3 + 16 * k + 200 < _; omega⟩
theorem RoomC.depth {k : Nat} {A : Around} (r : RoomC k A) : A.depth < recursionLimit := by have := r.dp; omega
theorem RoomC.units {k : Nat} {A : Around} (r : RoomC k A) : A.units + 64 < cLine := by have := r.un; omega
theorem roomC_mark {k : Nat} {A : Around} (r : Room k A) (v : Option Value) : RoomC k (A.mark v) := ⟨r.dp, r.un⟩
theorem guards_mark {A : Around} (h : A.guards = some []) (v : Option Value) : (A.mark v).guards = some [] := h
structure FnC (P : Program) (w : World) (K : PySem.W.Frag) (mg : Str → Option Value) (base : Heap) (k : Nat) (f : Addr) (fd : FuncData) (ps : List Str) (sp : Sp) : Prop where
  len : ∀ vs H Q E, sp vs H Q E → vs.length = ps.length
  run : ∀ (A : Around) (outer : List PySem.Env) (s : Shared) (H : Hp) (args : Args) (us : List Value) (vs : List V) (Q : VK) (E : XK), RoomC k A → A.guards = some [] → Env0 P w K mg base A outer s H →
    BindsTo s fd args (ps.zip us) → Vals vs us → sp vs H Q E → codeAny (model P w) A (.call (.ref f) args) (CR CX0 outer P w H s Q E) s
/-- the context of such a def's body -/
abbrev cxC (P : Program) (w : World) (K : PySem.W.Frag) (mg : Str → Option Value) (base : Heap) (N : List Str) (qual : Str) (scope : Scope) (f : Addr) (cd : Value) (A : Around) (outer : List PySem.Env) (s : Shared) (H : Hp) (E : XK) : Cx :=
  { cxOf CX0 P w K mg base N qual scope f cd A outer s H E with calm := false }
theorem inv_startC {P : Program} {w : World} {K : PySem.W.Frag} {mg : Str → Option Value} {base : Heap} {N ps : List Str} {qual : Str} {scope : Scope} {f : Addr} {cd : Value} {A : Around} {outer : List PySem.Env} {s s1 : Shared} {H : Hp} {E : XK} {us : List Value} {vs : List V}
    (S : FnScope N ps scope) (e0 : Env0 P w K mg base A outer s H) (hl : vs.length = ps.length) (r : Vals vs us)
    (x : InCallC s s.heap.objs.size (bindL (envOfC qual scope s.heap.objs.size f cd).kindOf (ps.zip us) fun _ => none) (cellsFrom (s.heap.objs.size + 1) scope.names []) (bindC (envOfC qual scope s.heap.objs.size f cd).kindOf (ps.zip us) fun _ => none) s1) :
    Inv (cxC P w K mg base N qual scope f cd A outer s H E) [] (L2.start N vs) H s1 := by
  have hpl : ps.length ≤ N.length := by have := congrArg List.length S.pre; rw [List.length_take] at this; omega
  obtain ⟨h1, tk, rfl, hk⟩ := x.done
  have noA : ∀ b : Addr, b ∉ (cxC P w K mg base N qual scope f cd A outer s H E).ex := fun b z => absurd (show b ∈ ([] : List Addr) from z) (by simp)
  refine ⟨⟨e0.mod, S.kind, rfl, rfl, Nat.le_refl _, fun y z c h1 h2 => ?_, fun y hy => ?_, fun y c _ h => ?_, (fun z => Bool.noConfusion (show false = true from z)), Around.frames_deeper e0.frames, .inr ⟨rfl, rfl⟩, fun b z => absurd z (noA b), e0.bs, e0.bsz, fun b _ _ => noA b, fun b z => absurd z (noA b), e0.funs, e0.frf⟩,
    rfl, e0.bare, Un.kept hk, ⟨_, x.toInCall.ns, fun i y v h1 h2 h3 => ?_⟩, fun y c h => ⟨_, x.cell y c h⟩, e0.hok.fresh (Nat.le_refl _), fun y c h => ?_, fun p hp => absurd (show p ∈ ([] : List (Addr × PySem.Obj)) from hp) (by simp), e0.hok.kept hk, ?_⟩
  · exact name_of_addr x.apart (PySem.mem_of_lookup h1) (PySem.mem_of_lookup h2)
  · have hy : scope.names.lookup y = some .cell ∨ scope.names.lookup y = some .free := hy
    rcases hy with hy | hy
    · exact cell_has hy
    · exact absurd rfl (S.nofree _ (PySem.mem_of_lookup hy))
  · exact Nat.le_of_lt (x.above y c (PySem.mem_of_lookup h))
  · have hi : i < vs.length := by
      unfold L2.start at h2
      by_cases hi : i < vs.length
      · exact hi
      · rw [List.getElem?_append_right (by simpa using hi)] at h2
        rw [List.getElem?_replicate] at h2
        split at h2 <;> cases h2
    have ha : vs[i]? = some v := by
      unfold L2.start at h2
      rw [List.getElem?_append_left (by simpa using hi), List.getElem?_map] at h2
      cases e : vs[i]? with
      | none => rw [e] at h2; cases h2
      | some a => rw [e] at h2; cases h2; rfl
    obtain ⟨u, hu, rv⟩ := r.get ha
    have hp : ps[i]? = some y := by
      rw [← S.pre, List.getElem?_take_of_lt (by omega)]; exact h1
    have ndP : ps.Nodup := by rw [← S.pre]; exact S.nd.sublist (List.take_sublist _ _)
    refine ⟨u, rv, ?_⟩
    rcases S.par y (List.mem_of_getElem? hp) with k | k
    · exact .inl ⟨k, bindL_get ndP hp hu k⟩
    · obtain ⟨c, e⟩ := cell_has (n := s.heap.objs.size + 1) k
      refine .inr ⟨.inl k, c, e, ?_⟩
      have q := x.cell y c e
      rw [bindC_get ndP hp hu (by show scope.names.lookup y ≠ _; rw [k]; decide)] at q
      exact q
  · exact e0.hok.fresh (Nat.le_of_lt (x.above y c (PySem.mem_of_lookup h)))
  · unfold L2.start
    show _ = N.length
    rw [List.length_append, List.length_map, List.length_replicate]
    omega
section
variable {X : Cx} {k : Nat} {f : Addr} {fd : FuncData} {ps : List Str} {sp : Sp} {dvs : List V} {ds : List Value} {E : XK}
theorem FnC.enter {pins : List (Addr × PySem.Obj)} {σ : SV} {H : Hp} {s : Shared} {Q : VK} {us : List Value} {vs : List V} (F : FnC X.prog X.w X.K X.mg X.base k f fd ps sp) (hr : RoomC k X.A) (hg : X.A.guards = some []) (hb : Binds X.K fd ps ds) (hd : Vals dvs ds) (hx : Passes CX0 X E)
    (I : Inv X pins σ H s) (r : Vals vs us) (h : sp (vs ++ dvs) H Q E) : wpAny (model X.prog X.w) X.A (call (.ref f) us) (EP X pins σ Q) X.xe s := by
  have rr : Vals (vs ++ dvs) (us ++ ds) := r.append hd
  refine wpAny_call (codeAny_mono (F.run X.A X.stack s H ⟨us, []⟩ _ _ Q E hr hg I.env0 (hb s us I.kIn (by rw [← rr.length]; exact F.len _ _ _ _ h)) rr h) fun z s' hz => ?_)
  match z, hz with
  | .error e, hz => exact hx pins σ H s e s' I hz
  | .ok (.ret u), hz => exact I.after hz
  | .ok .next, hz => exact hz.elim
  | .ok .brk, hz => exact hz.elim
  | .ok .cont, hz => exact hz.elim
theorem FnC.mono {P : Program} {w : World} {K : PySem.W.Frag} {mg : Str → Option Value} {base : Heap} {j k : Nat} {f : Addr} {fd : FuncData} {ps : List Str} {sp : Sp} (F : FnC P w K mg base j f fd ps sp) (h : j ≤ k) : FnC P w K mg base k f fd ps sp :=
  ⟨F.len, fun A outer s H args us vs Q E hr => F.run A outer s H args us vs Q E (hr.mono h)⟩
theorem pe_callC {x : Str} {e : Expr} {es : List Expr} {t : TA} {p pos : Pos} (F : FnC X.prog X.w X.K X.mg X.base k f fd ps sp) (hr : RoomC k X.A) (hgd : X.A.guards = some []) (hg : Gl X x) (hm : X.mg x = some (.ref f)) (hk : PySem.W.keepIn X.K (.ref f) = true) (hb : Binds X.K fd ps ds) (hd : Vals dvs ds) (hx : Passes CX0 X E)
    (ha : PA X (e :: es) t) (hdb : (x == ("__debug__" : Str)) = false := by decide) (he : starEach (e :: es) X.env = (false, eval e X.env) :: starEach es X.env := by rfl) (hpl : (backTo pos (starEach es X.env)).any (·.1) = false := by rfl) : PE X (.Call (.Name x p) (e :: es) [] pos) (tCall sp dvs E t) :=
  ⟨fun pins s σ H Q I h => wpAny_Call_Name_kw (ld_glob I hg hm (PySem.W.callWith_K (h₀ := X.base) I.ok.mod.kin hk (thn (ha.run pos pins s σ H _ I h) fun us s1 ⟨vs, H1, I1, r, q⟩ => ⟨I1.kIn, F.enter hr hgd hb hd hx I1 r q⟩) he hpl) hdb)⟩
end
section
variable {P : Program} {w : World} {K : PySem.W.Frag} {mg : Str → Option Value} {base : Heap}
theorem FnC.of {x qual : Str} {st : Stmt} {f : Addr} {fd : FuncData} {N ps : List Str} {k : Nat} {sp : Sp} (F : Fun K x qual st f fd) (S : FnScope N ps (defScope st)) (len : ∀ vs H Q E, sp vs H Q E → vs.length = ps.length)
    (body : ∀ (cdv : Value), fd.code = cdv → ∀ (A : Around) (outer : List PySem.Env) (s : Shared) (H : Hp) (vs : List V) (Q : VK) (E : XK), RoomC k (A.deeper (envOfC qual (defScope st) s.heap.objs.size f cdv)) → (A.deeper (envOfC qual (defScope st) s.heap.objs.size f cdv)).guards = some [] → sp vs H Q E →
      ∃ t, PSs (cxC P w K mg base N qual (defScope st) f cdv A outer s H E).nox (defBody st) t ∧ t { nx := fun _ H' => Q .non H', rt := Q } (start N vs) H) :
    FnC P w K mg base (k + 1) f fd ps sp := by
  obtain ⟨oc, od, kV, doc, pm, an, cdv, ct, osl, rfl, lk, hcd⟩ := F.ex
  refine ⟨len, fun A outer s H args us vs Q E hr hg e0 hb r hsp => ?_⟩
  have hl := len _ _ _ _ hsp
  have hK : K.In s.heap := e0.mod.kin.keeps fun b o z => (e0.bs b o z).1
  have hlim : s.heap.NoLimit := e0.mod.nolimit.keeps fun b o z => (e0.bs b o z).1
  refine codeAny_call_function hr.depth (hK _ _ lk) rfl S.co S.gen rfl (PySem.W.codeRec_of hK hcd) (hb _ _ _ _ ?_)
  refine wpAny_newFunctionEnv_cells S.kind (fun p hp => ?_) fun env he s1 x => ?_
  · rcases S.par p.1 (List.of_mem_zip (show (p.1, p.2) ∈ ps.zip us from hp)).1 with z | z
    · exact .inl z
    · exact .inr ⟨z, PySem.W.cellsFrom_some _ _ _ (.inl z)⟩
  subst he
  refine ⟨hlim.keeps x.toInCall.keep, codeAny_func ?_⟩
  obtain ⟨t, ht, hq⟩ := body cdv rfl A outer s H vs Q E (hr.deeper _) (deeper_guards hg) hsp
  have I := inv_startC (E := E) S e0 hl r x
  refine wpAny_mono (ht.nox.run [] s1 (start N vs) H _ I hq) (fun fl s' hs => ?_) fun _ _ z => z
  match fl, hs with
  | .ret u, ⟨v, σ', H', J, rv, z⟩ => exact ⟨v, H', J.os, J.bare, J.base, J.hok, rv, z⟩
  | .next, ⟨σ', H', J, z⟩ => exact ⟨.non, H', J.os, J.bare, J.base, J.hok, rfl, z⟩
  | .brk, ⟨_, _, _, z⟩ => exact z.elim
  | .cont, ⟨_, _, _, z⟩ => exact z.elim
theorem fnc_ok {x qual : Str} {st : Stmt} {f : Addr} {fd : FuncData} {N ps : List Str} {k : Nat} {body : M Fl} (F : Fun K x qual st f fd) (Sc : FnScope N ps (defScope st))
    (h : ∀ (cv : Value) (A : Around) (outer : List PySem.Env) (s : Shared) (H : Hp) (vs : List V) (Q : VK) (E : XK), RoomC k (A.deeper (envOfC qual (defScope st) s.heap.objs.size f cv)) → (A.deeper (envOfC qual (defScope st) s.heap.objs.size f cv)).guards = some [] →
      GSs (cxC P w K mg base N qual (defScope st) f cv A outer s H E).nox (defBody st) body) :
    FnC P w K mg base (k + 1) f fd ps (spG K ps.length (runF (N.length - ps.length) body)) := by
  refine FnC.of F Sc (fun vs H Q E q => q.1) fun cdv hc A outer s H vs Q E hr hgd q => ?_
  refine ⟨_, h cdv A outer s H vs Q E hr hgd, ?_⟩
  obtain ⟨hl, ι, sls, S, r, S', R, hs, hm, q⟩ := q
  have hl2 := hs.length
  unfold runF at hm
  rw [show ps.length = sls.length by omega] at hm
  have R0 := R.start (N := N) hs
  have fin : ∀ {σ' : SV} {e' : En} {H' : Hp} {ι' : List Addr} {S' : Sto}, Rel K H' ι' σ' e' S' → Post H ι (L2.start N vs) (sls.map some ++ List.replicate (N.length - sls.length) none) H' ι' σ' e' → RelS K H' ι' S' ∧ PostC H ι H' ι' := fun R' P' =>
    ⟨R'.s, P'.pre, P'.stay, P'.dom, fun a o h1 h2 => let ⟨q1, q2, _⟩ := P'.keep a o h1 h2 (no_own hs a); ⟨q1, q2⟩⟩
  split at hm
  · rename_i r0 e' S1 hb
    cases hm
    refine ⟨ι, _, S, _, e', _, R0, hb, fun v σ' H' ι' R' P' r' => ?_⟩
    obtain ⟨Rs, Pc⟩ := fin R' P'
    refine q v H' ι' Rs Pc ?_
    cases r with
    | d x => exact r'
    | new o =>
      obtain ⟨a, rfl, ro, n, nk⟩ := r'
      refine ⟨a, rfl, ro, n, ?_⟩
      cases hq : H a with
      | none => rfl
      | some u =>
        refine (nk u hq (fun hm => ?_) (no_own hs a)).elim
        obtain ⟨l, e⟩ := P'.pre
        exact n (e ▸ List.mem_append_left _ hm)
  · rename_i e' S1 hb
    cases hm
    refine ⟨ι, _, S, _, e', _, R0, hb, fun σ' H' ι' R' P' => ?_⟩
    obtain ⟨Rs, Pc⟩ := fin R' P'
    exact q .non H' ι' Rs Pc .non
  · cases hm
/-- a def of the text that is called within an except suite -/
structure GFC (P : Program) (w : World) (K : PySem.W.Frag) (mg : Str → Option Value) (base : Heap) (k : Nat) (x : Str) (n : Nat) (m : Fn) : Prop where
  ex : ∃ f fd ps, FnC P w K mg base k f fd ps (spG K n m) ∧ mg x = some (.ref f) ∧ PySem.W.keepIn K (.ref f) = true ∧ Binds K fd ps []
theorem GFC.mono {j k n : Nat} {x : Str} {m : Fn} (F : GFC P w K mg base j x n m) (h : j ≤ k) : GFC P w K mg base k x n m := by
  obtain ⟨f, fd, ps, ok, hm⟩ := F.ex
  exact ⟨⟨f, fd, ps, ok.mono h, hm⟩⟩
theorem GFC.bodyOf {x qual : Str} {st : Stmt} {N ps : List Str} {k : Nat} {body : M Fl} (D : DF K mg x qual st ps) (Sc : FnScope N ps (defScope st))
    (h : ∀ (f : Addr) (cdv : Value) (A : Around) (outer : List PySem.Env) (s : Shared) (H : Hp) (vs : List V) (Q : VK) (E : XK), RoomC k (A.deeper (envOfC qual (defScope st) s.heap.objs.size f cdv)) → (A.deeper (envOfC qual (defScope st) s.heap.objs.size f cdv)).guards = some [] →
      GSs (cxC P w K mg base N qual (defScope st) f cdv A outer s H E).nox (defBody st) body) :
    GFC P w K mg base (k + 1) x ps.length (runF (N.length - ps.length) body) := by
  obtain ⟨f, fd, F, hm, hb⟩ := D.ex
  exact ⟨⟨f, fd, ps, fnc_ok F Sc (h f), hm, F.kp, hb⟩⟩
end
section
variable {X : Cx} {k n : Nat} {f : Fn} {x : Str} {ex : Expr} {es : List Expr} {ms : M (List R)} {p pos : Pos}
theorem ge_callC (F : GFC X.prog X.w X.K X.mg X.base k x n f) (hr : RoomC k X.A) (hgd : X.A.guards = some []) (hg : Gl X x) (ha : GA X (ex :: es) ms) (hdb : (x == ("__debug__" : Str)) = false := by decide)
    (he : starEach (ex :: es) X.env = (false, eval ex X.env) :: starEach es X.env := by rfl) (hpl : (backTo pos (starEach es X.env)).any (·.1) = false := by rfl) :
    GE X (.Call (.Name x p) (ex :: es) [] pos) (mCall n f ms) := by
  obtain ⟨fa, fd, ps, ok, hm, hk, hb⟩ := F.ex
  refine PE.imp (pe_callC ok hr hgd hg hm hk hb .nil pass0 ha hdb he hpl) fun σ H Q q => ?_
  have h : tGA X.K ms σ H fun vs H1 => spG X.K n f vs H1 Q E0 := tG_call q
  unfold tCall
  simpa using h
end
end G

set_option Elab.async false
set_option linter.all false
set_option maxRecDepth 100000
set_option maxHeartbeats 4000000
namespace G
variable [Wld]
open PySem PySem.Spec PyProof.Rows L2
def topS (i : Nat) : Stmt := PySem.Challenge.pw_standviews_k35_roads_with_room.main.body.getD i (.Pass ⟨0, 0, 0, 0⟩)
def st_NoLetter : Stmt := clsB (topS 12) 0
structure FA where
  NoLetter : Addr
  Full : Addr
  ViewError : Addr
  NoScript : Addr
  NoText : Addr
  NoWatcher : Addr
  NoDeal : Addr
  NoEntry : Addr
  NoLine : Addr
  NoMoment : Addr
  NoPaper : Addr
  NoPerson : Addr
  NoPiece : Addr
  NoPlan : Addr
  NoQuestion : Addr
  NoRight : Addr
structure Dis (A : FA) : Prop where
  Full_NoLetter : A.Full ≠ A.NoLetter
structure Txt (K : PySem.W.Frag) (w : World) (mg : Str → Option Value) (A : FA) : Prop where
  wld : w = Wld.w
  m_NoLetter : mg "NoLetter" = some (.ref A.NoLetter)
  m_Full : mg "Full" = some (.ref A.Full)
  m_ViewError : mg "ViewError" = some (.ref A.ViewError)
  m_NoScript : mg "NoScript" = some (.ref A.NoScript)
  m_NoText : mg "NoText" = some (.ref A.NoText)
  m_NoWatcher : mg "NoWatcher" = some (.ref A.NoWatcher)
  m_NoDeal : mg "NoDeal" = some (.ref A.NoDeal)
  m_NoEntry : mg "NoEntry" = some (.ref A.NoEntry)
  m_NoLine : mg "NoLine" = some (.ref A.NoLine)
  m_NoMoment : mg "NoMoment" = some (.ref A.NoMoment)
  m_NoPaper : mg "NoPaper" = some (.ref A.NoPaper)
  m_NoPerson : mg "NoPerson" = some (.ref A.NoPerson)
  m_NoPiece : mg "NoPiece" = some (.ref A.NoPiece)
  m_NoPlan : mg "NoPlan" = some (.ref A.NoPlan)
  m_NoQuestion : mg "NoQuestion" = some (.ref A.NoQuestion)
  m_NoRight : mg "NoRight" = some (.ref A.NoRight)
  xv : VCls K A.ViewError
  xe_NoLetter : ExcC K A.NoLetter
  xm_NoLetter : PySem.W.exmOne K (.ref A.NoLetter) (.ref A.ViewError) = some true
  xe_Full : ExcC K A.Full
  xm_Full : PySem.W.exmOne K (.ref A.Full) (.ref A.ViewError) = some true
  xo_NoLetter : OexC K A.NoLetter
  xn_NoLetter : PySem.W.findIn K (.ref A.NoLetter) "i" = some none
  xi_NoLetter : InitAt K A.NoLetter "NoLetter.__init__" st_NoLetter
  xf_NoLetter : XfC K A.NoLetter
  x0_Full : XCl0 K mg "Full" A.Full
  kq0_NoLetter : PySem.W.kitOne K (.ref A.NoLetter) (.ref A.Full) = some false
  kq0_Full : PySem.W.kitOne K (.ref A.Full) (.ref A.Full) = some true
  kq1_NoLetter : PySem.W.kitOne K (.ref A.NoLetter) (.ref A.NoLetter) = some true
  kq1_Full : PySem.W.kitOne K (.ref A.Full) (.ref A.NoLetter) = some false
  kq2_NoLetter : PySem.W.kitOne K (.ref A.NoLetter) (.type "ValueError") = some true
  kq2_Full : PySem.W.kitOne K (.ref A.Full) (.type "ValueError") = some true
  kq3_NoLetter : PySem.W.kitAny K (.ref A.NoLetter) [.ref A.NoScript, .ref A.NoText, .ref A.NoWatcher] = some false
  kq3_Full : PySem.W.kitAny K (.ref A.Full) [.ref A.NoScript, .ref A.NoText, .ref A.NoWatcher] = some false
  kq4_NoLetter : PySem.W.kitAny K (.ref A.NoLetter) [.ref A.NoDeal, .ref A.NoEntry, .ref A.NoLine, .ref A.NoMoment, .ref A.NoPaper, .ref A.NoPerson, .ref A.NoPiece, .ref A.NoPlan, .ref A.NoQuestion, .ref A.NoRight] = some false
  kq4_Full : PySem.W.kitAny K (.ref A.Full) [.ref A.NoDeal, .ref A.NoEntry, .ref A.NoLine, .ref A.NoMoment, .ref A.NoPaper, .ref A.NoPerson, .ref A.NoPiece, .ref A.NoPlan, .ref A.NoQuestion, .ref A.NoRight] = some false
  n_ValueError : mg "ValueError" = none
  n_all : mg "all" = none
  n_bool : mg "bool" = none
  n_enumerate : mg "enumerate" = none
  n_int : mg "int" = none
  n_isinstance : mg "isinstance" = none
  n_len : mg "len" = none
  n_min : mg "min" = none
  n_range : mg "range" = none
  n_repr : mg "repr" = none
  n_tuple : mg "tuple" = none
  c_ROOM : ∃ t, mg "ROOM" = some (.int 4 t)
  kc_Road : Cls K (Wld.cls 0)
  kn_Road_room : NoAttr K (Wld.cls 0) "room"
  kn_Road_under_way : NoAttr K (Wld.cls 0) "under_way"
  d_is_whole : DF K mg "is_whole" "is_whole" (topS 18) ["thing"]
  d__law_begin : DF K mg "_law_begin" "_law_begin" (topS 23) ["_law_script"]
  d__law_pick : DF K mg "_law_pick" "_law_pick" (topS 24) ["_law_pot", "_law_many"]
  d__law_of : DF K mg "_law_of" "_law_of" (topS 25) ["_law_pot", "_law_some"]
  d__law_letter : DF K mg "_law_letter" "_law_letter" (topS 26) ["_law_pot"]
  d__law_thing : DF K mg "_law_thing" "_law_thing" (topS 27) ["_law_pot", "_law_many"]
  d__law_refusal : DF K mg "_law_refusal" "_law_refusal" (topS 28) ["_law_e"]
  d_Road_look_letter : DM K 0 "look_letter" "Road.look_letter" (clsB (topS 21) 3) ["self", "i"] []
  d_Road_bring : DM K 0 "bring" "Road.bring" (clsB (topS 21) 4) ["self", "i"] []
  d_Road_lose : DM K 0 "lose" "Road.lose" (clsB (topS 21) 5) ["self", "i"] []
  d_Road_put : DM K 0 "put" "Road.put" (clsB (topS 21) 1) ["self", "letter"] []
  d_Road_double : DM K 0 "double" "Road.double" (clsB (topS 21) 6) ["self", "i"] []
  d__law_told : DF K mg "_law_told" "_law_told" (topS 29) ["_law_road", "_law_way", "_law_thing_here"]
  d__law_due : DF K mg "_law_due" "_law_due" (topS 30) ["_law_own", "_law_space", "_law_way", "_law_thing_here"]
  d_Road___init__ : DID K mg 0 "Road" "Road.__init__" (clsB (topS 21) 0) ["self", "room"] [.int 4]
  dk_Road___init__ : DIK K mg 0 "Road" "Road.__init__" (clsB (topS 21) 0) ["self", "room"] ["room"]
  d_Road_letters : DM K 0 "letters" "Road.letters" (clsB (topS 21) 2) ["self"] []
  d__law_right : DF K mg "_law_right" "_law_right" (topS 31) ["_law_pot"]
  d_law : DF K mg "law" "law" (topS 32) ["_law_script"]
def kt_0 (A : FA) (C : Addr) : Option Bool := if C = A.NoLetter then some false else if C = A.Full then some true else none
theorem kt0_ok {K : PySem.W.Frag} {w : World} {mg : Str → Option Value} {A : FA} (T : Txt K w mg A) : ∀ C b, kt_0 A C = some b → ExcC K C ∧ PySem.W.kitOne K (.ref C) (.ref A.Full) = some b := fun C b h => by
  unfold kt_0 at h
  split at h
  · rename_i hC
    subst hC
    cases h
    exact ⟨T.xe_NoLetter, T.kq0_NoLetter⟩
  split at h
  · rename_i hC
    subst hC
    cases h
    exact ⟨T.xe_Full, T.kq0_Full⟩
  cases h
def kt_1 (A : FA) (C : Addr) : Option Bool := if C = A.NoLetter then some true else if C = A.Full then some false else none
theorem kt1_ok {K : PySem.W.Frag} {w : World} {mg : Str → Option Value} {A : FA} (T : Txt K w mg A) : ∀ C b, kt_1 A C = some b → ExcC K C ∧ PySem.W.kitOne K (.ref C) (.ref A.NoLetter) = some b := fun C b h => by
  unfold kt_1 at h
  split at h
  · rename_i hC
    subst hC
    cases h
    exact ⟨T.xe_NoLetter, T.kq1_NoLetter⟩
  split at h
  · rename_i hC
    subst hC
    cases h
    exact ⟨T.xe_Full, T.kq1_Full⟩
  cases h
def kt_2 (A : FA) (C : Addr) : Option Bool := if C = A.NoLetter then some true else if C = A.Full then some true else none
theorem kt2_ok {K : PySem.W.Frag} {w : World} {mg : Str → Option Value} {A : FA} (T : Txt K w mg A) : ∀ C b, kt_2 A C = some b → ExcC K C ∧ PySem.W.kitOne K (.ref C) (.type "ValueError") = some b := fun C b h => by
  unfold kt_2 at h
  split at h
  · rename_i hC
    subst hC
    cases h
    exact ⟨T.xe_NoLetter, T.kq2_NoLetter⟩
  split at h
  · rename_i hC
    subst hC
    cases h
    exact ⟨T.xe_Full, T.kq2_Full⟩
  cases h
def kt_3 (A : FA) (C : Addr) : Option Bool := if C = A.NoLetter then some false else if C = A.Full then some false else none
theorem kt3_ok {K : PySem.W.Frag} {w : World} {mg : Str → Option Value} {A : FA} (T : Txt K w mg A) : ∀ C b, kt_3 A C = some b → ExcC K C ∧ PySem.W.kitAny K (.ref C) [.ref A.NoScript, .ref A.NoText, .ref A.NoWatcher] = some b := fun C b h => by
  unfold kt_3 at h
  split at h
  · rename_i hC
    subst hC
    cases h
    exact ⟨T.xe_NoLetter, T.kq3_NoLetter⟩
  split at h
  · rename_i hC
    subst hC
    cases h
    exact ⟨T.xe_Full, T.kq3_Full⟩
  cases h
def kt_4 (A : FA) (C : Addr) : Option Bool := if C = A.NoLetter then some false else if C = A.Full then some false else none
theorem kt4_ok {K : PySem.W.Frag} {w : World} {mg : Str → Option Value} {A : FA} (T : Txt K w mg A) : ∀ C b, kt_4 A C = some b → ExcC K C ∧ PySem.W.kitAny K (.ref C) [.ref A.NoDeal, .ref A.NoEntry, .ref A.NoLine, .ref A.NoMoment, .ref A.NoPaper, .ref A.NoPerson, .ref A.NoPiece, .ref A.NoPlan, .ref A.NoQuestion, .ref A.NoRight] = some b := fun C b h => by
  unfold kt_4 at h
  split at h
  · rename_i hC
    subst hC
    cases h
    exact ⟨T.xe_NoLetter, T.kq4_NoLetter⟩
  split at h
  · rename_i hC
    subst hC
    cases h
    exact ⟨T.xe_Full, T.kq4_Full⟩
  cases h
theorem xm_of {K : PySem.W.Frag} {w : World} {mg : Str → Option Value} {A : FA} (T : Txt K w mg A) : ∀ C ∈ ([A.NoLetter, A.Full] : List Addr), PySem.W.exmOne K (.ref C) (.ref A.ViewError) = some true := List.forall_mem_cons.mpr ⟨T.xm_NoLetter, List.forall_mem_cons.mpr ⟨T.xm_Full, fun _ z => nomatch z⟩⟩
theorem xa_i {K : PySem.W.Frag} {w : World} {mg : Str → Option Value} {A : FA} (T : Txt K w mg A) : ∀ C ∈ ([A.NoLetter] : List Addr), XfC K C ∧ PySem.W.findIn K (.ref C) "i" = some none := List.forall_mem_cons.mpr ⟨⟨T.xf_NoLetter, T.xn_NoLetter⟩, fun _ z => nomatch z⟩
section
variable {P : Program} {w : World} {K : PySem.W.Frag} {mg : Str → Option Value} {base : Heap} {A : FA}
theorem sc_NoLetter : FnScope ["self", "i"] ["self", "i"] (defScope st_NoLetter) := ⟨rfl, rfl, rfl, by decide +kernel, rfl, by decide +kernel, by decide +kernel⟩
theorem xc_NoLetter (T : Txt K w mg A) : XCls P w K mg base 1 "NoLetter" A.NoLetter "i" := by
  obtain ⟨fI, oc, od, kV, doc, pm, an, cdv, ct, osl, i1, i2, lk, hcd⟩ := T.xi_NoLetter.ex
  refine ⟨T.xo_NoLetter, T.m_NoLetter, ⟨fI, PySem.W.fnOf "__init__" "NoLetter.__init__" (defArgs st_NoLetter) (defBody st_NoLetter) (defScope st_NoLetter) .none kV doc pm an cdv ct, ["self", "i"], i1, i2, ?_, ?_⟩⟩
  · refine fn_of (CX := CX0) lk hcd sc_NoLetter (fun vs H Q E ⟨b, v, e, _⟩ => by rw [e]; rfl) fun A0 outer s H vs Q E hr hsp => ?_
    refine ⟨_, PSs.nox (pss_cons (ps_expr (pe_vinit rfl T.m_ViewError T.xv.rd T.xv.ga T.xv.vV (pa_cons (pe_var (i := 0) rfl (.inl rfl)) (pa_cons pe_str pa_nil)))) (pss_one (ps_ost (pe_var (i := 0) rfl (.inl rfl)) (pe_var (i := 1) rfl (.inl rfl))))), ?_⟩
    obtain ⟨b, y, rfl, hb, q⟩ := hsp
    exact ⟨.ref b, rfl, ⟨b, A.NoLetter, [_], rfl, by simp, T.xo_NoLetter, hb, ⟨y, rfl, ⟨.ref b, rfl, b, A.NoLetter, rfl, T.xo_NoLetter, T.xn_NoLetter, .inl ⟨hb, fun dx h1 h2 => q dx h1 h2⟩⟩⟩⟩⟩
  · exact Binds.all fun us hl => (match us, hl with | [_, _], _ => rfl)
theorem xc0_Full (T : Txt K w mg A) : XCl0 K mg "Full" A.Full := T.x0_Full
end
section
variable {P : Program} {w : World} {K : PySem.W.Frag} {mg : Str → Option Value} {base : Heap} {A : FA}
abbrev s_is_whole : Stmt := topS 18
abbrev N_is_whole : List Str := ["thing"]
theorem sc_is_whole : FnScope N_is_whole ["thing"] (defScope s_is_whole) := ⟨rfl, rfl, rfl, by decide +kernel, rfl, by decide +kernel, by decide +kernel⟩
noncomputable def b_is_whole : M Fl := (mRet (mAndV (mIsi .int (mVar 0)) (mNotV (mIsi .bool (mVar 0)))))
noncomputable def f_is_whole : Fn := runF 0 (b_is_whole)
theorem g_is_whole (T : Txt K w mg A) : GF P w K mg base 1 "is_whole" 1 (f_is_whole) := GF.bodyOf (k := 0) T.d_is_whole sc_is_whole (fun f cdv A0 outer s H vs Q E hr hgd => (by
  exact (gss_one (gs_ret (ge_and (ge_isi .int (by rfl) T.n_isinstance (by rfl) T.n_int (by decide +kernel) (ge_var 0)) (ge_one (ge_not (ge_isi .bool (by rfl) T.n_isinstance (by rfl) T.n_bool (by decide +kernel) (ge_var 0)))))))))
abbrev s__law_begin : Stmt := topS 23
abbrev N__law_begin : List Str := ["_law_script", "_law_seed", "_law_great", "_law_k", "_law_cell"]
theorem sc__law_begin : FnScope N__law_begin ["_law_script"] (defScope s__law_begin) := ⟨rfl, rfl, rfl, by decide +kernel, rfl, by decide +kernel, by decide +kernel⟩
noncomputable def b__law_begin : M Fl := (mSeq (mPar2 1 2 (mC (.int 271828183)) (mBox (mLst mNil))) (mSeq (mFor (gtTup 2 (gtCons (gtName 3) (gtCons (gtName 4) gtNil))) (bnd (mCons (mD (mSl (mVar 0) (pur none) (bnd (mC (.int 63)) asI))) mNil) srcEnum) (mSeq (mSet 1 (mBin (gP dMod) (mBin gAdd (mBin gAdd (mBin gAdd (mBin (gP dMul) (mVar 1) (mC (.int 1000003))) (mBin (gP dMod) (mVar 4) (mBin (gP dPow) (mC (.int 10)) (mC (.int 40))))) (mBin (gP dMul) (mC (.int 7919)) (mVar 3))) (mC (.int 1))) (mC (.int 2305843009213693951)))) (mIfS (bnd (mBin (gP fun x y => dLe y x) (mVar 4) (mBin (gP dPow) (mC (.int 10)) (mC (.int 18)))) asB) (mDrop (mMth "list" gAppend (mVar 2) (mCons (mVar 4) mNil))) mSkip))) (mRet (mBox (mLst (mCons (mD (mVar 2)) (mCons (mVar 1) (mCons (mC (.int 0)) mNil))))))))
noncomputable def f__law_begin : Fn := runF 4 (b__law_begin)
theorem g__law_begin (T : Txt K w mg A) : GF P w K mg base 1 "_law_begin" 1 (f__law_begin) := GF.bodyOf (k := 0) T.d__law_begin sc__law_begin (fun f cdv A0 outer s H vs Q E hr hgd => (by
  exact (gss_cons (gs_par2 (i := 1) (j := 2) rfl sc__law_begin.nd rfl rfl (by decide) rfl rfl ge_int (ge_box (ge_lst ga_nil)) (by rfl))
    (gss_cons (gs_for (vs := [3, 4]) PassesOwn.never rfl (gi_enum (by rfl) T.n_enumerate (ga_cons (ge_D (ge_slice (ge_var 0) go_none (go_some ge_int))) ga_nil)) (gg_tup rfl (ggs_cons (gg_name (i := 3) sc__law_begin.nd rfl (.inl rfl)) (ggs_cons (gg_name (i := 4) sc__law_begin.nd rfl (.inl rfl)) ggs_nil))) (gss_cons (gs_set (i := 1) sc__law_begin.nd rfl (.inl rfl) (ge_op gop_mod (ge_op gop_add (ge_op gop_add (ge_op gop_add (ge_op gop_mulI (ge_var 1) ge_int) (ge_op gop_mod (ge_var 4) (ge_op gop_pow ge_int ge_int))) (ge_op gop_mulI ge_int (ge_var 3))) ge_int) ge_int))
    (gss_one (gs_if (gt_cmp gop_ge (ge_var 4) (ge_op gop_pow ge_int ge_int)) (gss_one (gs_expr (ge_m PySem.F.plainAttrs_list PySem.F.slot_list_append PySem.F.type_list_append mg_append (ge_var 2) (ga_cons (ge_var 4) ga_nil)))) gss_nil))))
    (gss_one (gs_ret (ge_box (ge_lst (ga_cons (ge_D (ge_var 2)) (ga_cons (ge_var 1) (ga_cons ge_int ga_nil)))))))))))
abbrev s__law_pick : Stmt := topS 24
abbrev N__law_pick : List Str := ["_law_pot", "_law_many", "_law_turn", "_law_once", "_law_digit"]
theorem sc__law_pick : FnScope N__law_pick ["_law_pot", "_law_many"] (defScope s__law_pick) := ⟨rfl, rfl, rfl, by decide +kernel, rfl, by decide +kernel, by decide +kernel⟩
noncomputable def b__law_pick : M Fl := (mSeq (whileL (mAnd (bnd (mBin (gEq true) (mBin gIx (mVar 0) (mC (.int 0))) (mLst mNil)) asB) (bnd (mBin (gEq false) (mBin gIx (mBin gIx (mVar 0) (mC (.int 0))) (mC (.int 0))) (mC (.int 0))) asB)) (mDrop (mMth "list" gPop (mBin gIx (mVar 0) (mC (.int 0))) (mCons (mC (.int 0)) mNil))) 100) (mSeq (mIfS (bnd (mBin (gEq true) (mBin gIx (mVar 0) (mC (.int 0))) (mLst mNil)) asB) (mSeq (mSet 4 (mBin (gP dMod) (mBin gIx (mBin gIx (mVar 0) (mC (.int 0))) (mC (.int 0))) (mVar 1))) (mSeq (mSetI (mBin (gP dDiv) (mBin gIx (mBin gIx (mVar 0) (mC (.int 0))) (mC (.int 0))) (mVar 1)) (mBin gIx (mVar 0) (mC (.int 0))) (mC (.int 0))) (mRet (mVar 4)))) mSkip) (mSeq (mSet 2 (mBin gAdd (mBin gIx (mVar 0) (mC (.int 2))) (mC (.int 1)))) (mSeq (mSetI (mVar 2) (mVar 0) (mC (.int 2))) (mSeq (mSet 3 (mBin (gP dMod) (mBin gAdd (mBin gAdd (mBin gIx (mVar 0) (mC (.int 1))) (mBin (gP dMul) (mBin (gP dMul) (mBin (gP dMul) (mC (.int 60013)) (mVar 2)) (mVar 2)) (mVar 2))) (mBin (gP dMul) (mC (.int 101)) (mVar 2))) (mC (.int 2305843009213693921)))) (mRet (mBin (gP dMod) (mBin gAdd (mBin (gP dDiv) (mBin (gP dMod) (mBin (gP dMul) (mVar 3) (mVar 3)) (mC (.int 2305843009213693907))) (mC (.int 1009))) (mBin (gP dDiv) (mVar 3) (mC (.int 31)))) (mVar 1))))))))
noncomputable def f__law_pick : Fn := runF 3 (b__law_pick)
theorem g__law_pick (T : Txt K w mg A) : GF P w K mg base 1 "_law_pick" 2 (f__law_pick) := GF.bodyOf (k := 0) T.d__law_pick sc__law_pick (fun f cdv A0 outer s H vs Q E hr hgd => (by
  exact (gss_cons (gs_while 100 PassesOwn.never (GW.gt (gw_and (gt_cmp (gop_ne hr.units) (ge_ix (hu_of hr) (ge_var 0) ge_int) (ge_lst ga_nil)) (gw_and1 (gt_cmp (gop_eq hr.units) (ge_ix (hu_of hr) (ge_ix (hu_of hr) (ge_var 0) ge_int) ge_int) ge_int)))) (gss_one (gs_expr (ge_m PySem.F.plainAttrs_list PySem.F.slot_list_pop PySem.F.type_list_pop mg_pop (ge_ix (hu_of hr) (ge_var 0) ge_int) (ga_cons ge_int ga_nil)))))
    (gss_cons (gs_if (gt_cmp (gop_ne hr.units) (ge_ix (hu_of hr) (ge_var 0) ge_int) (ge_lst ga_nil)) (gss_cons (gs_set (i := 4) sc__law_pick.nd rfl (.inl rfl) (ge_op gop_mod (ge_ix (hu_of hr) (ge_ix (hu_of hr) (ge_var 0) ge_int) ge_int) (ge_var 1)))
    (gss_cons (gs_setI (ge_op gop_div (ge_ix (hu_of hr) (ge_ix (hu_of hr) (ge_var 0) ge_int) ge_int) (ge_var 1)) (ge_ix (hu_of hr) (ge_var 0) ge_int) ge_int (ha := fun _ => rfl))
    (gss_one (gs_ret (ge_var 4))))) gss_nil)
    (gss_cons (gs_set (i := 2) sc__law_pick.nd rfl (.inl rfl) (ge_op gop_add (ge_ix (hu_of hr) (ge_var 0) ge_int) ge_int))
    (gss_cons (gs_setI (ge_var 2) (ge_var 0) ge_int (ha := fun _ => rfl))
    (gss_cons (gs_set (i := 3) sc__law_pick.nd rfl (.inl rfl) (ge_op gop_mod (ge_op gop_add (ge_op gop_add (ge_ix (hu_of hr) (ge_var 0) ge_int) (ge_op gop_mulI (ge_op gop_mulI (ge_op gop_mulI ge_int (ge_var 2)) (ge_var 2)) (ge_var 2))) (ge_op gop_mulI ge_int (ge_var 2))) ge_int))
    (gss_one (gs_ret (ge_op gop_mod (ge_op gop_add (ge_op gop_div (ge_op gop_mod (ge_op gop_mulI (ge_var 3) (ge_var 3)) ge_int) ge_int) (ge_op gop_div (ge_var 3) ge_int)) (ge_var 1)))))))))))
abbrev s__law_of : Stmt := topS 25
abbrev N__law_of : List Str := ["_law_pot", "_law_some"]
theorem sc__law_of : FnScope N__law_of ["_law_pot", "_law_some"] (defScope s__law_of) := ⟨rfl, rfl, rfl, by decide +kernel, rfl, by decide +kernel, by decide +kernel⟩
noncomputable def b__law_of : M Fl := (mRet (mBin gIx (mVar 1) (mCall 2 f__law_pick (mCons (mVar 0) (mCons (bnd (mCons (mVar 1) mNil) (g1 gLen)) mNil)))))
noncomputable def f__law_of : Fn := runF 0 (b__law_of)
theorem g__law_of (T : Txt K w mg A) : GF P w K mg base 2 "_law_of" 2 (f__law_of) := GF.bodyOf (k := 1) T.d__law_of sc__law_of (fun f cdv A0 outer s H vs Q E hr hgd => (by
  exact (gss_one (gs_ret (ge_ix (hu_of hr) (ge_var 1) (ge_call (GF.mono (g__law_pick T) (by decide)) hr hgd (by rfl) (ga_cons (ge_var 0) (ga_cons (ge_cb cg_len (by rfl) T.n_len PySem.boot_len (ga_cons (ge_var 1) ga_nil)) ga_nil))))))))
abbrev s__law_letter : Stmt := topS 26
abbrev N__law_letter : List Str := ["_law_pot", "_law_some"]
theorem sc__law_letter : FnScope N__law_letter ["_law_pot"] (defScope s__law_letter) := ⟨rfl, rfl, rfl, by decide +kernel, rfl, by decide +kernel, by decide +kernel⟩
noncomputable def b__law_letter : M Fl := (mSeq (mSet 1 (mLst (mCons (mTup (mCons (mC (.str "have")) (mCons (mC (.int 0)) (mCons (mC (.int 0)) (mCons (mUn gNeg (mC (.int 1))) mNil))))) (mCons (mTup (mCons (mC (.str "have")) (mCons (mC (.int 1)) (mCons (mC (.int 2)) (mCons (mC (.int 3)) mNil))))) (mCons (mTup (mCons (mC (.str "whole")) (mCons (mC (.int 0)) (mCons (mC (.int 0)) (mCons (mC (.int 1)) (mCons (mTup (mCons (mTup (mCons (mTup (mCons (mC (.int 1)) (mCons (mC (.str "a")) mNil))) mNil)) mNil)) mNil)))))) (mCons (mTup (mCons (mC (.str "whole")) (mCons (mC (.int 0)) (mCons (mC (.int 0)) (mCons (mC (.int 0)) (mCons (mTup (mCons (mTup mNil) mNil)) mNil)))))) mNil)))))) (mRet (mCall 2 f__law_of (mCons (mVar 0) (mCons (mBin gAdd (mVar 1) (mLst (mCons (mTup (mCons (mC (.str "change")) (mCons (mC (.int 0)) (mCons (mC (.int 0)) (mCons (mC (.int 1)) (mCons (mC (.int 2)) (mCons (mTup (mCons (mTup (mCons (mTup (mCons (mTup (mCons (mC (.int 1)) (mCons (mC (.str "a")) mNil))) mNil)) (mCons (mTup mNil) mNil))) mNil)) mNil))))))) (mCons (mTup (mCons (mC (.str "have")) (mCons (mC (.int 0)) (mCons (mC (.int 0)) (mCons (mCall 2 f__law_pick (mCons (mVar 0) (mCons (mC (.int 99)) mNil))) mNil))))) mNil)))) mNil)))))
noncomputable def f__law_letter : Fn := runF 1 (b__law_letter)
theorem g__law_letter (T : Txt K w mg A) : GF P w K mg base 3 "_law_letter" 1 (f__law_letter) := GF.bodyOf (k := 2) T.d__law_letter sc__law_letter (fun f cdv A0 outer s H vs Q E hr hgd => (by
  exact (gss_cons (gs_set (i := 1) sc__law_letter.nd rfl (.inl rfl) (ge_lst (ga_cons (ge_tup (ga_cons ge_str (ga_cons ge_int (ga_cons ge_int (ga_cons (ge_un gun_neg ge_int) ga_nil))))) (ga_cons (ge_tup (ga_cons ge_str (ga_cons ge_int (ga_cons ge_int (ga_cons ge_int ga_nil))))) (ga_cons (ge_tup (ga_cons ge_str (ga_cons ge_int (ga_cons ge_int (ga_cons ge_int (ga_cons (ge_tup (ga_cons (ge_tup (ga_cons (ge_tup (ga_cons ge_int (ga_cons ge_str ga_nil))) ga_nil)) ga_nil)) ga_nil)))))) (ga_cons (ge_tup (ga_cons ge_str (ga_cons ge_int (ga_cons ge_int (ga_cons ge_int (ga_cons (ge_tup (ga_cons (ge_tup ga_nil) ga_nil)) ga_nil)))))) ga_nil))))))
    (gss_one (gs_ret (ge_call (GF.mono (g__law_of T) (by decide)) hr hgd (by rfl) (ga_cons (ge_var 0) (ga_cons (ge_op gop_add (ge_var 1) (ge_lst (ga_cons (ge_tup (ga_cons ge_str (ga_cons ge_int (ga_cons ge_int (ga_cons ge_int (ga_cons ge_int (ga_cons (ge_tup (ga_cons (ge_tup (ga_cons (ge_tup (ga_cons (ge_tup (ga_cons ge_int (ga_cons ge_str ga_nil))) ga_nil)) (ga_cons (ge_tup ga_nil) ga_nil))) ga_nil)) ga_nil))))))) (ga_cons (ge_tup (ga_cons ge_str (ga_cons ge_int (ga_cons ge_int (ga_cons (ge_call (GF.mono (g__law_pick T) (by decide)) hr hgd (by rfl) (ga_cons (ge_var 0) (ga_cons ge_int ga_nil))) ga_nil))))) ga_nil)))) ga_nil))))))))
abbrev s__law_thing : Stmt := topS 27
abbrev N__law_thing : List Str := ["_law_pot", "_law_many", "_law_way", "_law_thing_here", "_law_turn"]
theorem sc__law_thing : FnScope N__law_thing ["_law_pot", "_law_many"] (defScope s__law_thing) := ⟨rfl, rfl, rfl, by decide +kernel, rfl, by decide +kernel, by decide +kernel⟩
noncomputable def b__law_thing : M Fl := (mSeq (mSet 2 (mCall 2 f__law_pick (mCons (mVar 0) (mCons (mC (.int 8)) mNil)))) (mSeq (mIfS (mAnd (bnd (mBin (gP dLt) (mVar 2) (mC (.int 5))) asB) (bnd (mBin (gP fun x y => dLt y x) (mVar 1) (mC (.int 0))) asB)) (mRet (mCall 2 f__law_of (mCons (mVar 0) (mCons (mLst (mCons (mC (.int 0)) (mCons (mBin (gP dSub) (mVar 1) (mC (.int 1))) (mCons (mCall 2 f__law_pick (mCons (mVar 0) (mCons (mVar 1) mNil))) mNil)))) mNil)))) mSkip) (mSeq (mSet 3 (mCall 2 f__law_of (mCons (mVar 0) (mCons (mLst (mCons (mVar 1) (mCons (mUn gNeg (mC (.int 1))) (mCons (mBin gAdd (mVar 1) (mC (.int 7))) (mCons (mC (.bl true)) (mCons (mC (.bl false)) (mCons (mC .non) (mCons (mC (.str "0")) (mCons (mC (.str "")) (mCons (mTup mNil) (mCons (mD (mLst (mCons (mC (.int 0)) mNil))) (mCons (mTup (mCons (mC (.int 0)) mNil)) (mCons (mD mDn) (mCons (mBin (gP dPow) (mC (.int 10)) (mC (.int 30))) mNil)))))))))))))) mNil)))) (mSeq (mFor (gtName 4) (bnd (mCons (mBin (gP dMul) (mCall 2 f__law_of (mCons (mVar 0) (mCons (mLst (mCons (mC (.int 0)) (mCons (mC (.int 0)) (mCons (mC (.int 0)) (mCons (mC (.int 1)) (mCons (mC (.int 18)) mNil)))))) mNil))) (bnd (mCons (mBin (gEq false) (mVar 2) (mC (.int 7))) mNil) (g1 gInt))) mNil) srcR1) (mSet 3 (mCall 2 f__law_of (mCons (mVar 0) (mCons (mLst (mCons (mTup (mCons (mVar 3) mNil)) (mCons (mD (mLst (mCons (mVar 3) mNil))) mNil))) mNil))))) (mRet (mVar 3))))))
noncomputable def f__law_thing : Fn := runF 3 (b__law_thing)
theorem g__law_thing (T : Txt K w mg A) : GF P w K mg base 3 "_law_thing" 2 (f__law_thing) := GF.bodyOf (k := 2) T.d__law_thing sc__law_thing (fun f cdv A0 outer s H vs Q E hr hgd => (by
  exact (gss_cons (gs_set (i := 2) sc__law_thing.nd rfl (.inl rfl) (ge_call (GF.mono (g__law_pick T) (by decide)) hr hgd (by rfl) (ga_cons (ge_var 0) (ga_cons ge_int ga_nil))))
    (gss_cons (gs_if (GW.gt (gw_and (gt_cmp gop_lt (ge_var 2) ge_int) (gw_and1 (gt_cmp gop_gt (ge_var 1) ge_int)))) (gss_one (gs_ret (ge_call (GF.mono (g__law_of T) (by decide)) hr hgd (by rfl) (ga_cons (ge_var 0) (ga_cons (ge_lst (ga_cons ge_int (ga_cons (ge_op gop_sub (ge_var 1) ge_int) (ga_cons (ge_call (GF.mono (g__law_pick T) (by decide)) hr hgd (by rfl) (ga_cons (ge_var 0) (ga_cons (ge_var 1) ga_nil))) ga_nil)))) ga_nil))))) gss_nil)
    (gss_cons (gs_set (i := 3) sc__law_thing.nd rfl (.inl rfl) (ge_call (GF.mono (g__law_of T) (by decide)) hr hgd (by rfl) (ga_cons (ge_var 0) (ga_cons (ge_lst (ga_cons (ge_var 1) (ga_cons (ge_un gun_neg ge_int) (ga_cons (ge_op gop_add (ge_var 1) ge_int) (ga_cons ge_bl (ga_cons ge_bl (ga_cons ge_non (ga_cons ge_str (ga_cons ge_str (ga_cons (ge_tup ga_nil) (ga_cons (ge_D (ge_lst (ga_cons ge_int ga_nil))) (ga_cons (ge_tup (ga_cons ge_int ga_nil)) (ga_cons (ge_D ge_dn) (ga_cons (ge_op gop_pow ge_int ge_int) ga_nil)))))))))))))) ga_nil))))
    (gss_cons (gs_for (vs := [4]) PassesOwn.never rfl (gi_range1 (by rfl) T.n_range (ga_cons (ge_op gop_mulI (ge_call (GF.mono (g__law_of T) (by decide)) hr hgd (by rfl) (ga_cons (ge_var 0) (ga_cons (ge_lst (ga_cons ge_int (ga_cons ge_int (ga_cons ge_int (ga_cons ge_int (ga_cons ge_int ga_nil)))))) ga_nil))) (ge_ct cg_int (by rfl) T.n_int (by decide +kernel) (ga_cons (ge_cmp (gop_eq hr.units) (ge_var 2) ge_int) ga_nil))) ga_nil)) (gg_name (i := 4) sc__law_thing.nd rfl (.inl rfl)) (gss_one (gs_set (i := 3) sc__law_thing.nd rfl (.inl rfl) (ge_call (GF.mono (g__law_of T) (by decide)) hr hgd (by rfl) (ga_cons (ge_var 0) (ga_cons (ge_lst (ga_cons (ge_tup (ga_cons (ge_var 3) ga_nil)) (ga_cons (ge_D (ge_lst (ga_cons (ge_var 3) ga_nil))) ga_nil))) ga_nil))))))
    (gss_one (gs_ret (ge_var 3)))))))))
abbrev s__law_refusal : Stmt := topS 28
abbrev N__law_refusal : List Str := ["_law_e", "_law_others"]
theorem sc__law_refusal : FnScope N__law_refusal ["_law_e"] (defScope s__law_refusal) := ⟨rfl, rfl, rfl, by decide +kernel, rfl, by decide +kernel, by decide +kernel⟩
noncomputable def b__law_refusal (A : FA) : M Fl := (mSeq (mSet 1 (bnd (mVar 0) (gIsY (kt_4 A)))) (mSeq (mSet 1 (mOrV (mVar 1) (mOrV (bnd (mVar 0) (gIsY (kt_3 A))) (mNotV (bnd (mVar 0) (gIsY (kt_2 A))))))) (mSeq (mIfS (mOr (bnd (mVar 1) asB) (mAnd (bnd (bnd (mVar 0) (gIsY (kt_0 A))) asB) (bnd (bnd (mVar 0) (gIsY (kt_1 A))) asB))) (mRet (mC (.str "odd"))) mSkip) (mRet (mIf (bnd (bnd (mVar 0) (gIsY (kt_0 A))) asB) (mC (.str "full")) (mBin gAdd (mC (.str "letter ")) (bnd (mCons (bnd (mVar 0) (gAttY [A.NoLetter] "i")) mNil) (g1 gRepr))))))))
noncomputable def f__law_refusal (A : FA) : Fn := runF 1 (b__law_refusal A)
theorem h__law_refusal (T : Txt K w mg A) : GFC P w K mg base 1 "_law_refusal" 1 (f__law_refusal A) := GFC.bodyOf (k := 0) T.d__law_refusal sc__law_refusal (fun f cdv A0 outer s H vs Q E hr hgd => (by
  exact (gss_cons (gs_set (i := 1) sc__law_refusal.nd rfl (.inl rfl) (ge_isYT rfl T.n_isinstance (ge_var 0) (pcs_cons (pe_glob (v := .ref A.NoDeal) rfl T.m_NoDeal rfl) (pcs_cons (pe_glob (v := .ref A.NoEntry) rfl T.m_NoEntry rfl) (pcs_cons (pe_glob (v := .ref A.NoLine) rfl T.m_NoLine rfl) (pcs_cons (pe_glob (v := .ref A.NoMoment) rfl T.m_NoMoment rfl) (pcs_cons (pe_glob (v := .ref A.NoPaper) rfl T.m_NoPaper rfl) (pcs_cons (pe_glob (v := .ref A.NoPerson) rfl T.m_NoPerson rfl) (pcs_cons (pe_glob (v := .ref A.NoPiece) rfl T.m_NoPiece rfl) (pcs_cons (pe_glob (v := .ref A.NoPlan) rfl T.m_NoPlan rfl) (pcs_cons (pe_glob (v := .ref A.NoQuestion) rfl T.m_NoQuestion rfl) (pcs_cons (pe_glob (v := .ref A.NoRight) rfl T.m_NoRight rfl) pcs_nil)))))))))) (.cons (.own _) (.cons (.own _) (.cons (.own _) (.cons (.own _) (.cons (.own _) (.cons (.own _) (.cons (.own _) (.cons (.own _) (.cons (.own _) (.cons (.own _) .nil)))))))))) (by simp) (kt4_ok T)))
    (gss_cons (gs_set (i := 1) sc__law_refusal.nd rfl (.inl rfl) (ge_or (ge_var 1) (ge_or (ge_isYT rfl T.n_isinstance (ge_var 0) (pcs_cons (pe_glob (v := .ref A.NoScript) rfl T.m_NoScript rfl) (pcs_cons (pe_glob (v := .ref A.NoText) rfl T.m_NoText rfl) (pcs_cons (pe_glob (v := .ref A.NoWatcher) rfl T.m_NoWatcher rfl) pcs_nil))) (.cons (.own _) (.cons (.own _) (.cons (.own _) .nil))) (by simp) (kt3_ok T)) (ge_one (ge_not (ge_isY rfl T.n_isinstance (ge_var 0) (pe_bltn (v := .ty "ValueError") (u := .type "ValueError") rfl T.n_ValueError (by decide +kernel) rfl) (.ty _) (kt2_ok T)))))))
    (gss_cons (gs_if (GW.gt (gw_or (gt_val (ge_var 1)) (gw_or1 (GW.gt (gw_and (gt_val (ge_isY rfl T.n_isinstance (ge_var 0) (pe_glob (v := .ref A.Full) rfl T.m_Full rfl) (.own _) (kt0_ok T))) (gw_and1 (gt_val (ge_isY rfl T.n_isinstance (ge_var 0) (pe_glob (v := .ref A.NoLetter) rfl T.m_NoLetter rfl) (.own _) (kt1_ok T))))))))) (gss_one (gs_ret ge_str)) gss_nil)
    (gss_one (gs_ret (ge_ifExp (gt_val (ge_isY rfl T.n_isinstance (ge_var 0) (pe_glob (v := .ref A.Full) rfl T.m_Full rfl) (.own _) (kt0_ok T))) ge_str (ge_op gop_add ge_str (ge_cb (cg_repr hgd hr.units) (by rfl) T.n_repr (by decide +kernel) (ga_cons (ge_attY (cs := [A.NoLetter]) (xa_i T) (ge_var 0)) ga_nil)))))))))))
abbrev s_Road_look_letter : Stmt := clsB (topS 21) 3
abbrev N_Road_look_letter : List Str := ["self", "i"]
theorem sc_Road_look_letter : FnScope N_Road_look_letter ["self", "i"] (defScope s_Road_look_letter) := ⟨rfl, rfl, rfl, by decide +kernel, rfl, by decide +kernel, by decide +kernel⟩
noncomputable def b_Road_look_letter (A : FA) : M (Fl ⊕ Ex) := (yIf (mOr (mNot (bnd (mCall 1 f_is_whole (mCons (mVar 1) mNil)) asB)) (mNot (bnd (mChain (gP dLe) (gP dLt) (mC (.int 0)) (mVar 1) (bnd (mCons (mFld 0 "under_way" (mVar 0)) mNil) (g1 gLen))) asB))) (yRaise A.NoLetter "i" (mVar 1)) (yl mSkip))
noncomputable def f_Road_look_letter (A : FA) : FnY := runY 0 (b_Road_look_letter A)
theorem g_Road_look_letter (T : Txt K w mg A) : GFMY P w K mg base 3 0 "look_letter" 2 [] (f_Road_look_letter A) := GFMY.bodyOf (k := 2) T.d_Road_look_letter sc_Road_look_letter (fun f cdv A0 outer s H vs Q E hr hgd => (by
  exact (gsys_one (gsy_if (GW.gt (gw_or (gt_not (gt_val (ge_call (GF.mono (g_is_whole T) (by decide)) hr hgd (by rfl) (ga_cons (ge_var 1) ga_nil)))) (gw_or1 (gt_not (gt_chain gop_le gop_lt ge_int (ge_var 1) (ge_cb cg_len (by rfl) T.n_len PySem.boot_len (ga_cons (ge_fld T.kc_Road T.kn_Road_under_way (ge_var 0)) ga_nil))))))) (gsys_one (gsy_raise rfl (takes_of rfl rfl rfl rfl) (xc_NoLetter T) (hr.mono (by decide)) rfl (ge_var 1))) gsys_nil))))
abbrev s_Road_bring : Stmt := clsB (topS 21) 4
abbrev N_Road_bring : List Str := ["self", "i"]
theorem sc_Road_bring : FnScope N_Road_bring ["self", "i"] (defScope s_Road_bring) := ⟨rfl, rfl, rfl, by decide +kernel, rfl, by decide +kernel, by decide +kernel⟩
noncomputable def b_Road_bring (A : FA) : M (Fl ⊕ Ex) := (ySeq (yDrop (mMethY 0 "look_letter" 2 [] (f_Road_look_letter A) (mVar 0) (mCons (mVar 1) mNil))) (yl (mRet (mMth "list" gPop (mFld 0 "under_way" (mVar 0)) (mCons (mVar 1) mNil)))))
noncomputable def f_Road_bring (A : FA) : FnY := runY 0 (b_Road_bring A)
theorem g_Road_bring (T : Txt K w mg A) : GFMY P w K mg base 4 0 "bring" 2 [] (f_Road_bring A) := GFMY.bodyOf (k := 3) T.d_Road_bring sc_Road_bring (fun f cdv A0 outer s H vs Q E hr hgd => (by
  exact (gsys_cons (gsy_expr (gey_meth (GFMY.mono (g_Road_look_letter T) (by decide)) T.kc_Road hr hgd (TakesC.of (takes_of rfl rfl rfl rfl)) (ge_var 0) (ga_cons (ge_var 1) ga_nil)))
    (gsys_one (gsy_l (gs_ret (ge_m PySem.F.plainAttrs_list PySem.F.slot_list_pop PySem.F.type_list_pop mg_pop (ge_fld T.kc_Road T.kn_Road_under_way (ge_var 0)) (ga_cons (ge_var 1) ga_nil))))))))
abbrev s_Road_lose : Stmt := clsB (topS 21) 5
abbrev N_Road_lose : List Str := ["self", "i"]
theorem sc_Road_lose : FnScope N_Road_lose ["self", "i"] (defScope s_Road_lose) := ⟨rfl, rfl, rfl, by decide +kernel, rfl, by decide +kernel, by decide +kernel⟩
noncomputable def b_Road_lose (A : FA) : M (Fl ⊕ Ex) := (ySeq (yDrop (mMethY 0 "look_letter" 2 [] (f_Road_look_letter A) (mVar 0) (mCons (mVar 1) mNil))) (yl (mDrop (mMth "list" gPop (mFld 0 "under_way" (mVar 0)) (mCons (mVar 1) mNil)))))
noncomputable def f_Road_lose (A : FA) : FnY := runY 0 (b_Road_lose A)
theorem g_Road_lose (T : Txt K w mg A) : GFMY P w K mg base 4 0 "lose" 2 [] (f_Road_lose A) := GFMY.bodyOf (k := 3) T.d_Road_lose sc_Road_lose (fun f cdv A0 outer s H vs Q E hr hgd => (by
  exact (gsys_cons (gsy_expr (gey_meth (GFMY.mono (g_Road_look_letter T) (by decide)) T.kc_Road hr hgd (TakesC.of (takes_of rfl rfl rfl rfl)) (ge_var 0) (ga_cons (ge_var 1) ga_nil)))
    (gsys_one (gsy_l (gs_expr (ge_m PySem.F.plainAttrs_list PySem.F.slot_list_pop PySem.F.type_list_pop mg_pop (ge_fld T.kc_Road T.kn_Road_under_way (ge_var 0)) (ga_cons (ge_var 1) ga_nil))))))))
abbrev s_Road_put : Stmt := clsB (topS 21) 1
abbrev N_Road_put : List Str := ["self", "letter"]
theorem sc_Road_put : FnScope N_Road_put ["self", "letter"] (defScope s_Road_put) := ⟨rfl, rfl, rfl, by decide +kernel, rfl, by decide +kernel, by decide +kernel⟩
noncomputable def b_Road_put : M Fl := (mSeq (mIfS (bnd (mBin (gP fun x y => dLe y x) (bnd (mCons (mFld 0 "under_way" (mVar 0)) mNil) (g1 gLen)) (mFld 0 "room" (mVar 0))) asB) (mRet (mC (.bl false))) mSkip) (mSeq (mDrop (mMth "list" gAppend (mFld 0 "under_way" (mVar 0)) (mCons (mVar 1) mNil))) (mRet (mC (.bl true)))))
noncomputable def f_Road_put : Fn := runF 0 (b_Road_put)
theorem g_Road_put (T : Txt K w mg A) : GFM P w K mg base 1 0 "put" 2 [] (f_Road_put) := GFM.bodyOf (k := 0) T.d_Road_put sc_Road_put (fun f cdv A0 outer s H vs Q E hr hgd => (by
  exact (gss_cons (gs_if (gt_cmp gop_ge (ge_cb cg_len (by rfl) T.n_len PySem.boot_len (ga_cons (ge_fld T.kc_Road T.kn_Road_under_way (ge_var 0)) ga_nil)) (ge_fld T.kc_Road T.kn_Road_room (ge_var 0))) (gss_one (gs_ret ge_bl)) gss_nil)
    (gss_cons (gs_expr (ge_m PySem.F.plainAttrs_list PySem.F.slot_list_append PySem.F.type_list_append mg_append (ge_fld T.kc_Road T.kn_Road_under_way (ge_var 0)) (ga_cons (ge_var 1) ga_nil)))
    (gss_one (gs_ret ge_bl))))))
abbrev s_Road_double : Stmt := clsB (topS 21) 6
abbrev N_Road_double : List Str := ["self", "i"]
theorem sc_Road_double : FnScope N_Road_double ["self", "i"] (defScope s_Road_double) := ⟨rfl, rfl, rfl, by decide +kernel, rfl, by decide +kernel, by decide +kernel⟩
noncomputable def b_Road_double (A : FA) : M (Fl ⊕ Ex) := (ySeq (yDrop (mMethY 0 "look_letter" 2 [] (f_Road_look_letter A) (mVar 0) (mCons (mVar 1) mNil))) (yIf (mNot (bnd (mMeth 0 "put" 2 [] f_Road_put (mVar 0) (mCons (mBin gIx (mFld 0 "under_way" (mVar 0)) (mVar 1)) mNil)) asB)) (yRaise0 A.Full) (yl mSkip)))
noncomputable def f_Road_double (A : FA) : FnY := runY 0 (b_Road_double A)
theorem g_Road_double (T : Txt K w mg A) : GFMY P w K mg base 4 0 "double" 2 [] (f_Road_double A) := GFMY.bodyOf (k := 3) T.d_Road_double sc_Road_double (fun f cdv A0 outer s H vs Q E hr hgd => (by
  exact (gsys_cons (gsy_expr (gey_meth (GFMY.mono (g_Road_look_letter T) (by decide)) T.kc_Road hr hgd (TakesC.of (takes_of rfl rfl rfl rfl)) (ge_var 0) (ga_cons (ge_var 1) ga_nil)))
    (gsys_one (gsy_if (gt_not (gt_val (ge_meth (GFM.mono (g_Road_put T) (by decide)) T.kc_Road hr hgd (ge_var 0) (ga_cons (ge_ix (hu_of hr) (ge_fld T.kc_Road T.kn_Road_under_way (ge_var 0)) (ge_var 1)) ga_nil)))) (gsys_one (gsy_raise0 rfl (takes_of rfl rfl rfl rfl) (xc0_Full T) rfl)) gsys_nil)))))
abbrev s__law_told : Stmt := topS 29
abbrev N__law_told : List Str := ["_law_road", "_law_way", "_law_thing_here", "_law_found", "_law_e"]
theorem sc__law_told : FnScope N__law_told ["_law_road", "_law_way", "_law_thing_here"] (defScope s__law_told) := ⟨rfl, rfl, rfl, by decide +kernel, rfl, by decide +kernel, by decide +kernel⟩
noncomputable def b__law_told (A : FA) : M Fl := (mSeq (mSet 3 (mC .non)) (mSeq (mTryY [A.NoLetter, A.Full] 4 (yIf (bnd (mBin (gEq false) (mVar 1) (mC (.str "bring"))) asB) (ySet 3 (mBinY gAdd (yl (mC (.str "told "))) (bnY (mConsY (mMethY 0 "bring" 2 [] (f_Road_bring A) (mVar 0) (mCons (mVar 2) mNil)) mNilY) fun rs => yl ((g1 gRepr) rs)))) (ySet 3 (mBinY gAdd (yl (mC (.str "told "))) (bnY (mConsY (mIfY (bnd (mBin (gEq false) (mVar 1) (mC (.str "lose"))) asB) (mMethY 0 "lose" 2 [] (f_Road_lose A) (mVar 0) (mCons (mVar 2) mNil)) (mMethY 0 "double" 2 [] (f_Road_double A) (mVar 0) (mCons (mVar 2) mNil))) mNilY) fun rs => yl ((g1 gRepr) rs))))) (mSet 3 (mCall 1 (f__law_refusal A) (mCons (mVar 4) mNil)))) (mRet (mVar 3))))
noncomputable def f__law_told (A : FA) : Fn := runF 2 (b__law_told A)
theorem g__law_told (T : Txt K w mg A) : GF P w K mg base 5 "_law_told" 3 (f__law_told A) := GF.bodyOf (k := 4) T.d__law_told sc__law_told (fun f cdv A0 outer s H vs Q E hr hgd => (by
  exact (gss_cons (gs_set (i := 3) sc__law_told.nd rfl (.inl rfl) ge_non)
    (gss_cons (gs_tryY (i := 4) (cs := [A.NoLetter, A.Full]) (Wout := fun _ _ _ _ => False) rfl rfl sc__law_told.nd rfl rfl ⟨rfl, by decide, .inl T.m_ViewError⟩ rfl takesN (xm_of T) (fun W pn xe tk hp => (gsys_one (gsy_if (gt_cmp (gop_eq hr.units) (ge_var 1) ge_str) (gsys_one (gsy_set (i := 3) sc__law_told.nd rfl (.inl rfl) (gey_op gop_add (gey_l ge_str) (gey_cb (cg_repr hgd hr.units) (by rfl) T.n_repr (by decide +kernel) (gay_cons (gey_meth (GFMY.mono (g_Road_bring T) (by decide)) T.kc_Road hr hgd (TakesC.of tk) (ge_var 0) (ga_cons (ge_var 2) ga_nil)) gay_nil))))) (gsys_one (gsy_set (i := 3) sc__law_told.nd rfl (.inl rfl) (gey_op gop_add (gey_l ge_str) (gey_cb (cg_repr hgd hr.units) (by rfl) T.n_repr (by decide +kernel) (gay_cons (gey_if (gt_cmp (gop_eq hr.units) (ge_var 1) ge_str) (gey_meth (GFMY.mono (g_Road_lose T) (by decide)) T.kc_Road hr hgd (TakesC.of tk) (ge_var 0) (ga_cons (ge_var 2) ga_nil)) (gey_meth (GFMY.mono (g_Road_double T) (by decide)) T.kc_Road hr hgd (TakesC.of tk) (ge_var 0) (ga_cons (ge_var 2) ga_nil))) gay_nil)))))))) (fun a pn => (gss_one (gs_set (i := 3) sc__law_told.nd rfl (.inl rfl) (ge_callC (GFC.mono (h__law_refusal T) (by decide)) (roomC_mark hr _) (guards_mark hgd _) (by rfl) (ga_cons (ge_var 4) ga_nil))))))
    (gss_one (gs_ret (ge_var 3)))))))
abbrev s__law_due : Stmt := topS 30
abbrev N__law_due : List Str := ["_law_own", "_law_space", "_law_way", "_law_thing_here", "_law_letter_here"]
theorem sc__law_due : FnScope N__law_due ["_law_own", "_law_space", "_law_way", "_law_thing_here"] (defScope s__law_due) := ⟨rfl, rfl, rfl, by decide +kernel, rfl, by decide +kernel, by decide +kernel⟩
noncomputable def b__law_due : M Fl := (mSeq (mIfS (mOr (mNot (bnd (mIsi .int (mVar 3)) asB)) (mOr (bnd (mIsi .bool (mVar 3)) asB) (mNot (bnd (mChain (gP dLe) (gP dLt) (mC (.int 0)) (mVar 3) (bnd (mCons (mVar 0) mNil) (g1 gLen))) asB)))) (mRet (mBin gAdd (mC (.str "letter ")) (bnd (mCons (mVar 3) mNil) (g1 gRepr)))) mSkip) (mSeq (mIfS (bnd (mBin (gEq false) (mVar 2) (mC (.str "double"))) asB) (mSeq (mIfS (bnd (mBin (gP fun x y => dLe y x) (bnd (mCons (mVar 0) mNil) (g1 gLen)) (mVar 1)) asB) (mRet (mC (.str "full"))) mSkip) (mSeq (mDrop (mMth "list" gAppend (mVar 0) (mCons (mBin gIx (mVar 0) (mVar 3)) mNil))) (mRet (mC (.str "told None"))))) mSkip) (mSeq (mSet 4 (mMth "list" gPop (mVar 0) (mCons (mVar 3) mNil))) (mRet (mIf (bnd (mBin (gEq false) (mVar 2) (mC (.str "bring"))) asB) (mBin gAdd (mC (.str "told ")) (bnd (mCons (mVar 4) mNil) (g1 gRepr))) (mC (.str "told None")))))))
noncomputable def f__law_due : Fn := runF 1 (b__law_due)
theorem g__law_due (T : Txt K w mg A) : GF P w K mg base 1 "_law_due" 4 (f__law_due) := GF.bodyOf (k := 0) T.d__law_due sc__law_due (fun f cdv A0 outer s H vs Q E hr hgd => (by
  exact (gss_cons (gs_if (GW.gt (gw_or (gt_not (gt_val (ge_isi .int (by rfl) T.n_isinstance (by rfl) T.n_int (by decide +kernel) (ge_var 3)))) (gw_or (gt_val (ge_isi .bool (by rfl) T.n_isinstance (by rfl) T.n_bool (by decide +kernel) (ge_var 3))) (gw_or1 (gt_not (gt_chain gop_le gop_lt ge_int (ge_var 3) (ge_cb cg_len (by rfl) T.n_len PySem.boot_len (ga_cons (ge_var 0) ga_nil)))))))) (gss_one (gs_ret (ge_op gop_add ge_str (ge_cb (cg_repr hgd hr.units) (by rfl) T.n_repr (by decide +kernel) (ga_cons (ge_var 3) ga_nil))))) gss_nil)
    (gss_cons (gs_if (gt_cmp (gop_eq hr.units) (ge_var 2) ge_str) (gss_cons (gs_if (gt_cmp gop_ge (ge_cb cg_len (by rfl) T.n_len PySem.boot_len (ga_cons (ge_var 0) ga_nil)) (ge_var 1)) (gss_one (gs_ret ge_str)) gss_nil)
    (gss_cons (gs_expr (ge_m PySem.F.plainAttrs_list PySem.F.slot_list_append PySem.F.type_list_append mg_append (ge_var 0) (ga_cons (ge_ix (hu_of hr) (ge_var 0) (ge_var 3)) ga_nil)))
    (gss_one (gs_ret ge_str)))) gss_nil)
    (gss_cons (gs_set (i := 4) sc__law_due.nd rfl (.inl rfl) (ge_m PySem.F.plainAttrs_list PySem.F.slot_list_pop PySem.F.type_list_pop mg_pop (ge_var 0) (ga_cons (ge_var 3) ga_nil)))
    (gss_one (gs_ret (ge_ifExp (gt_cmp (gop_eq hr.units) (ge_var 2) ge_str) (ge_op gop_add ge_str (ge_cb (cg_repr hgd hr.units) (by rfl) T.n_repr (by decide +kernel) (ga_cons (ge_var 4) ga_nil))) ge_str))))))))
abbrev s_Road___init__ : Stmt := clsB (topS 21) 0
abbrev N_Road___init__ : List Str := ["self", "room"]
theorem sc_Road___init__ : FnScope N_Road___init__ ["self", "room"] (defScope s_Road___init__) := ⟨rfl, rfl, rfl, by decide +kernel, rfl, by decide +kernel, by decide +kernel⟩
noncomputable def b_Road___init__ : M Fl := (mSeq (mSetF 0 "room" (mVar 1) (mVar 0)) (mSetF 0 "under_way" (mBox (mLst mNil)) (mVar 0)))
noncomputable def f_Road___init__ : Fn := runF 0 (b_Road___init__)
theorem gk_Road___init__ (T : Txt K w mg A) : GMkK P w K mg base 1 0 "Road" ["room"] (f_Road___init__) := GMkK.bodyOf (k := 0) T.dk_Road___init__ sc_Road___init__ (fun f cdv A0 outer s H vs Q E hr hgd => (by
  exact (gss_cons (gs_setF T.kc_Road T.kn_Road_room (ge_var 1) (ge_var 0))
    (gss_one (gs_setF T.kc_Road T.kn_Road_under_way (ge_box (ge_lst ga_nil)) (ge_var 0))))))
theorem g_Road___init__ (T : Txt K w mg A) : GMkD P w K mg base 1 0 "Road" 2 [.int 4] (f_Road___init__) := GMkD.bodyOf (k := 0) T.d_Road___init__ sc_Road___init__ (fun f cdv A0 outer s H vs Q E hr hgd => (by
  exact (gss_cons (gs_setF T.kc_Road T.kn_Road_room (ge_var 1) (ge_var 0))
    (gss_one (gs_setF T.kc_Road T.kn_Road_under_way (ge_box (ge_lst ga_nil)) (ge_var 0))))))
abbrev s_Road_letters : Stmt := clsB (topS 21) 2
abbrev N_Road_letters : List Str := ["self"]
theorem sc_Road_letters : FnScope N_Road_letters ["self"] (defScope s_Road_letters) := ⟨rfl, rfl, rfl, by decide +kernel, rfl, by decide +kernel, by decide +kernel⟩
noncomputable def b_Road_letters : M Fl := (mRet (bnd (mCons (mFld 0 "under_way" (mVar 0)) mNil) (g1 gTuple)))
noncomputable def f_Road_letters : Fn := runF 0 (b_Road_letters)
theorem g_Road_letters (T : Txt K w mg A) : GFM P w K mg base 1 0 "letters" 1 [] (f_Road_letters) := GFM.bodyOf (k := 0) T.d_Road_letters sc_Road_letters (fun f cdv A0 outer s H vs Q E hr hgd => (by
  exact (gss_one (gs_ret (ge_ct cg_tuple (by rfl) T.n_tuple (by decide +kernel) (ga_cons (ge_fld T.kc_Road T.kn_Road_under_way (ge_var 0)) ga_nil))))))
abbrev s__law_right : Stmt := topS 31
abbrev N__law_right : List Str := ["_law_pot", "_law_rooms", "_law_roads", "_law_turn", "_law_limits", "_law_owns", "_law_at", "_law_way", "_law_road", "_law_own", "_law_limit", "_law_thing_here", "_law_letter_here", "_law_there", "_law_space", "_law_one"]
theorem sc__law_right : FnScope N__law_right ["_law_pot"] (defScope s__law_right) := ⟨rfl, rfl, rfl, by decide +kernel, rfl, by decide +kernel, by decide +kernel⟩
noncomputable def b__law_right (A : FA) : M Fl := (mSeq (mSet 1 (mLst (mCons (mCall 2 f__law_of (mCons (mVar 0) (mCons (mLst (mCons (mC (.int 1)) (mCons (mC (.int 2)) (mCons (mC (.int 4)) (mCons (mC (.int 7)) (mCons (mC .non) mNil)))))) mNil))) (mCons (mCall 2 f__law_of (mCons (mVar 0) (mCons (mLst (mCons (mC (.int 1)) (mCons (mC (.int 3)) (mCons (mC .non) mNil)))) mNil))) mNil)))) (mSeq (mSet 2 (mLc [14] (gtName 14) (mSrc (mVar 1)) (pur true) (mIf (bnd (mBin (gIsN false) (mVar 14) (mC .non)) asB) (mMake 0 2 f_Road___init__ (pur (List.map R.d [.int 4]))) (mMake 0 2 f_Road___init__ (mCons (mVar 14) mNil))))) (mSeq (mPar2 4 5 (mLc [14] (gtName 14) (mSrc (mVar 1)) (pur true) (mIf (bnd (mBin (gIsN false) (mVar 14) (mC .non)) asB) (mC (.int 4)) (mVar 14))) (mLst (mCons (mBox (mLst mNil)) (mCons (mBox (mLst mNil)) mNil)))) (mSeq (mFor (gtName 3) (bnd (mCons (mCall 2 f__law_pick (mCons (mVar 0) (mCons (mC (.int 31)) mNil))) mNil) srcR1) (mSeq (mPar2 6 7 (mCall 2 f__law_pick (mCons (mVar 0) (mCons (mC (.int 2)) mNil))) (mCall 2 f__law_of (mCons (mVar 0) (mCons (mLst (mCons (mC (.str "put")) (mCons (mC (.str "put")) (mCons (mC (.str "put")) (mCons (mC (.str "bring")) (mCons (mC (.str "lose")) (mCons (mC (.str "double")) (mCons (mC (.str "double")) mNil)))))))) mNil)))) (mSeq (mPar3 8 9 10 (mBin gIx (mVar 2) (mVar 6)) (mBin gIx (mVar 5) (mVar 6)) (mBin gIx (mVar 4) (mVar 6))) (mSeq (mIfS (bnd (mBin (gEq false) (mVar 7) (mC (.str "put"))) asB) (mSeq (mPar2 12 13 (mCall 1 f__law_letter (mCons (mVar 0) mNil)) (mBin (gP dLt) (bnd (mCons (mVar 9) mNil) (g1 gLen)) (mVar 10))) (mSeq (mIfS (bnd (mBin (gEq true) (bnd (mCons (mMeth 0 "put" 2 [] f_Road_put (mVar 8) (mCons (mVar 12) mNil)) mNil) (g1 gRepr)) (bnd (mCons (mVar 13) mNil) (g1 gRepr))) asB) (mRet (mC (.bl false))) mSkip) (mDrop (mMth "list" gExtend (mVar 9) (mCons (mBin gMulL (mLst (mCons (mVar 12) mNil)) (bnd (mCons (mVar 13) mNil) (g1 gInt))) mNil))))) (mSeq (mSet 11 (mCall 2 f__law_thing (mCons (mVar 0) (mCons (bnd (mCons (mVar 9) mNil) (g1 gLen)) mNil)))) (mIfS (bnd (mBin (gEq true) (mCall 3 (f__law_told A) (mCons (mVar 8) (mCons (mVar 7) (mCons (mVar 11) mNil)))) (mCall 4 f__law_due (mCons (mVar 9) (mCons (mVar 10) (mCons (mVar 7) (mCons (mVar 11) mNil)))))) asB) (mRet (mC (.bl false))) mSkip))) (mIfS (bnd (mBin (gEq true) (mLc [15] (gtName 15) (mSrc (mVar 2)) (pur true) (bnd (mCons (mMeth 0 "letters" 1 [] f_Road_letters (mVar 15) mNil) mNil) (g1 gRepr))) (mLc [15] (gtName 15) (mSrc (mVar 5)) (pur true) (bnd (mCons (bnd (mCons (mVar 15) mNil) (g1 gTuple)) mNil) (g1 gRepr)))) asB) (mRet (mC (.bl false))) mSkip))))) (mRet (mC (.bl true)))))))
noncomputable def f__law_right (A : FA) : Fn := runF 15 (b__law_right A)
theorem g__law_right (T : Txt K w mg A) : GF P w K mg base 6 "_law_right" 1 (f__law_right A) := GF.bodyOf (k := 5) T.d__law_right sc__law_right (fun f cdv A0 outer s H vs Q E hr hgd => (by
  exact (gss_cons (gs_set (i := 1) sc__law_right.nd rfl (.inl rfl) (ge_lst (ga_cons (ge_call (GF.mono (g__law_of T) (by decide)) hr hgd (by rfl) (ga_cons (ge_var 0) (ga_cons (ge_lst (ga_cons ge_int (ga_cons ge_int (ga_cons ge_int (ga_cons ge_int (ga_cons ge_non ga_nil)))))) ga_nil))) (ga_cons (ge_call (GF.mono (g__law_of T) (by decide)) hr hgd (by rfl) (ga_cons (ge_var 0) (ga_cons (ge_lst (ga_cons ge_int (ga_cons ge_int (ga_cons ge_non ga_nil)))) ga_nil))) ga_nil))))
    (gss_cons (gs_setLc (i := 2) (own := [("_law_space", 14)]) rfl sc__law_right.nd rfl rfl (sw_true rfl rfl rfl (by decide +kernel)) (gi_seq (ge_var 1)) (blkOk_by (own := [("_law_space", 14)]) (N := N__law_right) (sc := defScope s__law_right) (by decide +kernel)) (fun _ _ _ _ _ => (gg_name (i := 14) sc__law_right.nd rfl (.inl rfl))) (fun _ _ _ _ _ => gts_nil) (fun _ _ _ _ _ => (ge_ifExp (gt_cmp gop_isN (ge_var 14) ge_non) (ge_makeD0 (dd := [.int 4]) (GMkD.mono (k := 4) (g_Road___init__ T) (by decide)) hr hgd (by rfl)) (ge_makeK (ks := ["room"]) (GMkK.mono (k := 4) (gk_Road___init__ T) (by decide)) hr hgd (by rfl) (gk_cons (ge_var 14) gk_nil) (len_cons (fun _ _ _ _ _ h => len_nil h))))))
    (gss_cons (gs_par2 (i := 4) (j := 5) rfl sc__law_right.nd rfl rfl (by decide) rfl rfl (ge_lc (own := [("_law_space", 14)]) rfl sc__law_right.nd (gi_seq (ge_var 1)) (blkOk_by (own := [("_law_space", 14)]) (N := N__law_right) (sc := defScope s__law_right) (by decide +kernel)) (fun _ _ _ _ _ => (gg_name (i := 14) sc__law_right.nd rfl (.inl rfl))) (fun _ _ _ _ _ => gts_nil) (fun _ _ _ _ _ => (ge_ifExp (gt_cmp gop_isN (ge_var 14) ge_non) ge_int (ge_var 14)))) (ge_lst (ga_cons (ge_box (ge_lst ga_nil)) (ga_cons (ge_box (ge_lst ga_nil)) ga_nil))) (by rfl))
    (gss_cons (gs_for (vs := [3]) PassesOwn.never rfl (gi_range1 (by rfl) T.n_range (ga_cons (ge_call (GF.mono (g__law_pick T) (by decide)) hr hgd (by rfl) (ga_cons (ge_var 0) (ga_cons ge_int ga_nil))) ga_nil)) (gg_name (i := 3) sc__law_right.nd rfl (.inl rfl)) (gss_cons (gs_par2 (i := 6) (j := 7) rfl sc__law_right.nd rfl rfl (by decide) rfl rfl (ge_call (GF.mono (g__law_pick T) (by decide)) hr hgd (by rfl) (ga_cons (ge_var 0) (ga_cons ge_int ga_nil))) (ge_call (GF.mono (g__law_of T) (by decide)) hr hgd (by rfl) (ga_cons (ge_var 0) (ga_cons (ge_lst (ga_cons ge_str (ga_cons ge_str (ga_cons ge_str (ga_cons ge_str (ga_cons ge_str (ga_cons ge_str (ga_cons ge_str ga_nil)))))))) ga_nil))) (by rfl))
    (gss_cons (gs_par3 (i := 8) (j := 9) (l := 10) rfl sc__law_right.nd rfl rfl rfl (by decide) (by decide) (by decide) rfl rfl rfl (ge_ix (hu_of hr) (ge_var 2) (ge_var 6)) (ge_ix (hu_of hr) (ge_var 5) (ge_var 6)) (ge_ix (hu_of hr) (ge_var 4) (ge_var 6)) (by rfl))
    (gss_cons (gs_if (gt_cmp (gop_eq hr.units) (ge_var 7) ge_str) (gss_cons (gs_par2 (i := 12) (j := 13) rfl sc__law_right.nd rfl rfl (by decide) rfl rfl (ge_call (GF.mono (g__law_letter T) (by decide)) hr hgd (by rfl) (ga_cons (ge_var 0) ga_nil)) (ge_cmp gop_lt (ge_cb cg_len (by rfl) T.n_len PySem.boot_len (ga_cons (ge_var 9) ga_nil)) (ge_var 10)) (by rfl))
    (gss_cons (gs_if (gt_cmp (gop_ne hr.units) (ge_cb (cg_repr hgd hr.units) (by rfl) T.n_repr (by decide +kernel) (ga_cons (ge_meth (GFM.mono (g_Road_put T) (by decide)) T.kc_Road hr hgd (ge_var 8) (ga_cons (ge_var 12) ga_nil)) ga_nil)) (ge_cb (cg_repr hgd hr.units) (by rfl) T.n_repr (by decide +kernel) (ga_cons (ge_var 13) ga_nil))) (gss_one (gs_ret ge_bl)) gss_nil)
    (gss_one (gs_expr (ge_m PySem.F.plainAttrs_list PySem.F.slot_list_extend PySem.F.type_list_extend mg_extend (ge_var 9) (ga_cons (ge_op gop_mulL (ge_lst (ga_cons (ge_var 12) ga_nil)) (ge_ct cg_int (by rfl) T.n_int (by decide +kernel) (ga_cons (ge_var 13) ga_nil))) ga_nil)))))) (gss_cons (gs_set (i := 11) sc__law_right.nd rfl (.inl rfl) (ge_call (GF.mono (g__law_thing T) (by decide)) hr hgd (by rfl) (ga_cons (ge_var 0) (ga_cons (ge_cb cg_len (by rfl) T.n_len PySem.boot_len (ga_cons (ge_var 9) ga_nil)) ga_nil))))
    (gss_one (gs_if (gt_cmp (gop_ne hr.units) (ge_call (GF.mono (g__law_told T) (by decide)) hr hgd (by rfl) (ga_cons (ge_var 8) (ga_cons (ge_var 7) (ga_cons (ge_var 11) ga_nil)))) (ge_call (GF.mono (g__law_due T) (by decide)) hr hgd (by rfl) (ga_cons (ge_var 9) (ga_cons (ge_var 10) (ga_cons (ge_var 7) (ga_cons (ge_var 11) ga_nil)))))) (gss_one (gs_ret ge_bl)) gss_nil))))
    (gss_one (gs_if (gt_cmp (gop_ne hr.units) (ge_lc (own := [("_law_one", 15)]) rfl sc__law_right.nd (gi_seq (ge_var 2)) (blkOk_by (own := [("_law_one", 15)]) (N := N__law_right) (sc := defScope s__law_right) (by decide +kernel)) (fun _ _ _ _ _ => (gg_name (i := 15) sc__law_right.nd rfl (.inl rfl))) (fun _ _ _ _ _ => gts_nil) (fun _ _ _ _ _ => (ge_cb (cg_repr hgd hr.units) (by rfl) T.n_repr (by decide +kernel) (ga_cons (ge_meth0 (GFM.mono (g_Road_letters T) (by decide)) T.kc_Road hr hgd (ge_var 15)) ga_nil)))) (ge_lc (own := [("_law_one", 15)]) rfl sc__law_right.nd (gi_seq (ge_var 5)) (blkOk_by (own := [("_law_one", 15)]) (N := N__law_right) (sc := defScope s__law_right) (by decide +kernel)) (fun _ _ _ _ _ => (gg_name (i := 15) sc__law_right.nd rfl (.inl rfl))) (fun _ _ _ _ _ => gts_nil) (fun _ _ _ _ _ => (ge_cb (cg_repr hgd hr.units) (by rfl) T.n_repr (by decide +kernel) (ga_cons (ge_ct cg_tuple (by rfl) T.n_tuple (by decide +kernel) (ga_cons (ge_var 15) ga_nil)) ga_nil))))) (gss_one (gs_ret ge_bl)) gss_nil))))))
    (gss_one (gs_ret ge_bl))))))))
abbrev s_law : Stmt := topS 32
abbrev N_law : List Str := ["_law_script", "_law_pot", "_law_turn"]
theorem sc_law : FnScope N_law ["_law_script"] (defScope s_law) := ⟨rfl, rfl, rfl, by decide +kernel, rfl, by decide +kernel, by decide +kernel⟩
noncomputable def b_law (A : FA) : M Fl := (mSeq (mSet 1 (mCall 1 f__law_begin (mCons (mVar 0) mNil))) (mSeq (mIfS (bnd (mBin (gEq true) (bnd (mCons (mC (.int 4)) mNil) (g1 gRepr)) (mC (.str "4"))) asB) (mRet (mC (.bl false))) mSkip) (mRet (bnd (mCons (mLc [2] (gtName 2) (bnd (mCons (mBin gAdd (mC (.int 1)) (bnd (mCons (bnd (mCons (mVar 0) mNil) (g1 gLen)) (mCons (mC (.int 2)) mNil)) (g2I min2))) mNil) srcR1) (pur true) (mCall 1 (f__law_right A) (mCons (mVar 1) mNil))) mNil) (g1 (gBls fun bs => bs.all id))))))
noncomputable def f_law (A : FA) : Fn := runF 2 (b_law A)
theorem ok_law (T : Txt K w mg A) {f : Addr} {fd : FuncData} (F : Fun K "law" "law" (topS 32) f fd) : FnG P w K mg base 7 f fd ["_law_script"] (spG K 1 (f_law A)) := fn_ok (k := 6) F sc_law (fun cdv A0 outer s H vs Q E hr hgd => (by
  exact (gss_cons (gs_set (i := 1) sc_law.nd rfl (.inr rfl) (ge_call (GF.mono (g__law_begin T) (by decide)) hr hgd (by rfl) (ga_cons (ge_var 0) ga_nil)))
    (gss_cons (gs_if (gt_cmp (gop_ne hr.units) (ge_cb (cg_repr hgd hr.units) (by rfl) T.n_repr (by decide +kernel) (ga_cons (ge_gI T.c_ROOM (by rfl)) ga_nil)) ge_str) (gss_one (gs_ret ge_bl)) gss_nil)
    (gss_one (gs_ret (ge_cb (cg_all rfl) (by rfl) T.n_all (by decide +kernel) (ga_cons (ge_lc (own := [("_law_turn", 2)]) rfl sc_law.nd (gi_range1 (by rfl) T.n_range (ga_cons (ge_op gop_add ge_int (ge_cb (cg_min2 rfl) (by rfl) T.n_min (by decide +kernel) (ga_cons (ge_cb cg_len (by rfl) T.n_len PySem.boot_len (ga_cons (ge_var 0) ga_nil)) (ga_cons ge_int ga_nil)))) ga_nil)) (blkOk_by (own := [("_law_turn", 2)]) (N := N_law) (sc := defScope s_law) (by decide +kernel)) (fun _ _ _ _ _ => (gg_name (i := 2) sc_law.nd rfl (.inl rfl))) (fun _ _ _ _ _ => gts_nil) (fun _ _ _ _ _ => (ge_call (GF.mono (g__law_right T) (by decide)) hr hgd (by rfl) (ga_cons (ge_var 1) ga_nil)))) ga_nil))))))))
end
theorem txt_mk {K : PySem.W.Frag} {w : World} {h : Heap} {mg : Str → Option Value} (X : K.In h) (G : h.Ns mainGlobals mg) (hwld : w = Wld.w)
    {C_Road : Addr}
    {f0 : Addr} {od0 an0 : Option Addr} {sl0 : Array (Option Value)} {oc0 kV0 dc0 pm0 cd0 ct0 : Value}
    {f1 : Addr} {od1 an1 : Option Addr} {sl1 : Array (Option Value)} {oc1 kV1 dc1 pm1 cd1 ct1 : Value}
    {f2 : Addr} {od2 an2 : Option Addr} {sl2 : Array (Option Value)} {oc2 kV2 dc2 pm2 cd2 ct2 : Value}
    {f3 : Addr} {od3 an3 : Option Addr} {sl3 : Array (Option Value)} {oc3 kV3 dc3 pm3 cd3 ct3 : Value}
    {f4 : Addr} {od4 an4 : Option Addr} {sl4 : Array (Option Value)} {oc4 kV4 dc4 pm4 cd4 ct4 : Value}
    {f5 : Addr} {od5 an5 : Option Addr} {sl5 : Array (Option Value)} {oc5 kV5 dc5 pm5 cd5 ct5 : Value}
    {f6 : Addr} {od6 an6 : Option Addr} {sl6 : Array (Option Value)} {oc6 kV6 dc6 pm6 cd6 ct6 : Value}
    {f7 : Addr} {od7 an7 : Option Addr} {sl7 : Array (Option Value)} {oc7 kV7 dc7 pm7 cd7 ct7 : Value}
    {f8 : Addr} {od8 an8 : Option Addr} {sl8 : Array (Option Value)} {oc8 kV8 dc8 pm8 cd8 ct8 : Value}
    {f9 : Addr} {od9 an9 : Option Addr} {sl9 : Array (Option Value)} {oc9 kV9 dc9 pm9 cd9 ct9 : Value}
    {f10 : Addr} {od10 an10 : Option Addr} {sl10 : Array (Option Value)} {oc10 kV10 dc10 pm10 cd10 ct10 : Value}
    {f11 : Addr} {od11 an11 : Option Addr} {sl11 : Array (Option Value)} {oc11 kV11 dc11 pm11 cd11 ct11 : Value}
    {f12 : Addr} {od12 an12 : Option Addr} {sl12 : Array (Option Value)} {oc12 kV12 dc12 pm12 cd12 ct12 : Value}
    {f13 : Addr} {od13 an13 : Option Addr} {sl13 : Array (Option Value)} {oc13 kV13 dc13 pm13 cd13 ct13 : Value}
    {f14 D14 : Addr} {od14 an14 : Option Addr} {sl14 : Array (Option Value)} {oc14 dc14 pm14 cd14 ct14 : Value} {tk14 : Tok}
    {f15 : Addr} {od15 an15 : Option Addr} {sl15 : Array (Option Value)} {oc15 kV15 dc15 pm15 cd15 ct15 : Value}
    {f16 : Addr} {od16 an16 : Option Addr} {sl16 : Array (Option Value)} {oc16 kV16 dc16 pm16 cd16 ct16 : Value}
    {f17 : Addr} {od17 an17 : Option Addr} {sl17 : Array (Option Value)} {oc17 kV17 dc17 pm17 cd17 ct17 : Value}
    {t_ROOM : Tok}
    {ANoLetter : Addr}
    {AFull : Addr}
    {AViewError : Addr}
    {ANoScript : Addr}
    {ANoText : Addr}
    {ANoWatcher : Addr}
    {ANoDeal : Addr}
    {ANoEntry : Addr}
    {ANoLine : Addr}
    {ANoMoment : Addr}
    {ANoPaper : Addr}
    {ANoPerson : Addr}
    {ANoPiece : Addr}
    {ANoPlan : Addr}
    {ANoQuestion : Addr}
    {ANoRight : Addr}
    {fINoLetter : Addr} {ocNoLetter kVNoLetter docNoLetter pmNoLetter cdvNoLetter ctNoLetter : Value} {odNoLetter anNoLetter : Option Addr} {oslNoLetter : Array (Option Value)} {nmNoLetter qNoLetter : Str} {NNoLetter : Addr} {bsNoLetter bmNoLetter subNoLetter : List Value} {snNoLetter : List Str} {abNoLetter : Bool} {colNoLetter : Option Bool} {ddNoLetter : Option Addr} {g0NoLetter g1NoLetter g2NoLetter g3NoLetter g5NoLetter : Option Value}
    (hcls_Road : Wld.cls 0 = C_Road) (cw_Road : PySem.W.nsIn K mainGlobals "Road" = some (some (.ref C_Road))) (cp_Road : PySem.W.plainGet K C_Road Str.empty = true) (ch_Road : PySem.W.hasDictIn K C_Road = true) (co_Road : PySem.W.plainOver K C_Road = true) (cs_Road : PySem.W.findIn K (.ref C_Road) "__setattr__" = some (some (.builtin "object.__setattr__"))) (cm_Road : PySem.W.makesIn K C_Road = true) (ck_Road : PySem.W.keepIn K (.ref C_Road) = true)
    (cf_Road_room : PySem.W.findIn K (.ref C_Road) "room" = some none)
    (cf_Road_under_way : PySem.W.findIn K (.ref C_Road) "under_way" = some none)
    (a0 : PySem.W.nsIn K mainGlobals "is_whole" = some (some (.ref f0))) (l0 : K.lookup f0 = some ⟨oc0, od0, .func (PySem.W.fnOf "is_whole" "is_whole" (defArgs (topS 18)) (defBody (topS 18)) (defScope (topS 18)) .none kV0 dc0 pm0 an0 cd0 ct0), sl0⟩) (c0 : PySem.W.codeIn K cd0 "is_whole" = true) (k0 : PySem.W.keepIn K (.ref f0) = true)
    (a1 : PySem.W.nsIn K mainGlobals "_law_begin" = some (some (.ref f1))) (l1 : K.lookup f1 = some ⟨oc1, od1, .func (PySem.W.fnOf "_law_begin" "_law_begin" (defArgs (topS 23)) (defBody (topS 23)) (defScope (topS 23)) .none kV1 dc1 pm1 an1 cd1 ct1), sl1⟩) (c1 : PySem.W.codeIn K cd1 "_law_begin" = true) (k1 : PySem.W.keepIn K (.ref f1) = true)
    (a2 : PySem.W.nsIn K mainGlobals "_law_pick" = some (some (.ref f2))) (l2 : K.lookup f2 = some ⟨oc2, od2, .func (PySem.W.fnOf "_law_pick" "_law_pick" (defArgs (topS 24)) (defBody (topS 24)) (defScope (topS 24)) .none kV2 dc2 pm2 an2 cd2 ct2), sl2⟩) (c2 : PySem.W.codeIn K cd2 "_law_pick" = true) (k2 : PySem.W.keepIn K (.ref f2) = true)
    (a3 : PySem.W.nsIn K mainGlobals "_law_of" = some (some (.ref f3))) (l3 : K.lookup f3 = some ⟨oc3, od3, .func (PySem.W.fnOf "_law_of" "_law_of" (defArgs (topS 25)) (defBody (topS 25)) (defScope (topS 25)) .none kV3 dc3 pm3 an3 cd3 ct3), sl3⟩) (c3 : PySem.W.codeIn K cd3 "_law_of" = true) (k3 : PySem.W.keepIn K (.ref f3) = true)
    (a4 : PySem.W.nsIn K mainGlobals "_law_letter" = some (some (.ref f4))) (l4 : K.lookup f4 = some ⟨oc4, od4, .func (PySem.W.fnOf "_law_letter" "_law_letter" (defArgs (topS 26)) (defBody (topS 26)) (defScope (topS 26)) .none kV4 dc4 pm4 an4 cd4 ct4), sl4⟩) (c4 : PySem.W.codeIn K cd4 "_law_letter" = true) (k4 : PySem.W.keepIn K (.ref f4) = true)
    (a5 : PySem.W.nsIn K mainGlobals "_law_thing" = some (some (.ref f5))) (l5 : K.lookup f5 = some ⟨oc5, od5, .func (PySem.W.fnOf "_law_thing" "_law_thing" (defArgs (topS 27)) (defBody (topS 27)) (defScope (topS 27)) .none kV5 dc5 pm5 an5 cd5 ct5), sl5⟩) (c5 : PySem.W.codeIn K cd5 "_law_thing" = true) (k5 : PySem.W.keepIn K (.ref f5) = true)
    (a6 : PySem.W.nsIn K mainGlobals "_law_refusal" = some (some (.ref f6))) (l6 : K.lookup f6 = some ⟨oc6, od6, .func (PySem.W.fnOf "_law_refusal" "_law_refusal" (defArgs (topS 28)) (defBody (topS 28)) (defScope (topS 28)) .none kV6 dc6 pm6 an6 cd6 ct6), sl6⟩) (c6 : PySem.W.codeIn K cd6 "_law_refusal" = true) (k6 : PySem.W.keepIn K (.ref f6) = true)
    (a7 : PySem.W.findIn K (.ref C_Road) "look_letter" = some (some (.ref f7))) (l7 : K.lookup f7 = some ⟨oc7, od7, .func (PySem.W.fnOf "look_letter" "Road.look_letter" (defArgs (clsB (topS 21) 3)) (defBody (clsB (topS 21) 3)) (defScope (clsB (topS 21) 3)) .none kV7 dc7 pm7 an7 cd7 ct7), sl7⟩) (c7 : PySem.W.codeIn K cd7 "Road.look_letter" = true) (k7 : PySem.W.keepIn K (.ref f7) = true)
    (i7 : PySem.W.isFn K (.ref f7) = true)
    (a8 : PySem.W.findIn K (.ref C_Road) "bring" = some (some (.ref f8))) (l8 : K.lookup f8 = some ⟨oc8, od8, .func (PySem.W.fnOf "bring" "Road.bring" (defArgs (clsB (topS 21) 4)) (defBody (clsB (topS 21) 4)) (defScope (clsB (topS 21) 4)) .none kV8 dc8 pm8 an8 cd8 ct8), sl8⟩) (c8 : PySem.W.codeIn K cd8 "Road.bring" = true) (k8 : PySem.W.keepIn K (.ref f8) = true)
    (i8 : PySem.W.isFn K (.ref f8) = true)
    (a9 : PySem.W.findIn K (.ref C_Road) "lose" = some (some (.ref f9))) (l9 : K.lookup f9 = some ⟨oc9, od9, .func (PySem.W.fnOf "lose" "Road.lose" (defArgs (clsB (topS 21) 5)) (defBody (clsB (topS 21) 5)) (defScope (clsB (topS 21) 5)) .none kV9 dc9 pm9 an9 cd9 ct9), sl9⟩) (c9 : PySem.W.codeIn K cd9 "Road.lose" = true) (k9 : PySem.W.keepIn K (.ref f9) = true)
    (i9 : PySem.W.isFn K (.ref f9) = true)
    (a10 : PySem.W.findIn K (.ref C_Road) "put" = some (some (.ref f10))) (l10 : K.lookup f10 = some ⟨oc10, od10, .func (PySem.W.fnOf "put" "Road.put" (defArgs (clsB (topS 21) 1)) (defBody (clsB (topS 21) 1)) (defScope (clsB (topS 21) 1)) .none kV10 dc10 pm10 an10 cd10 ct10), sl10⟩) (c10 : PySem.W.codeIn K cd10 "Road.put" = true) (k10 : PySem.W.keepIn K (.ref f10) = true)
    (i10 : PySem.W.isFn K (.ref f10) = true)
    (a11 : PySem.W.findIn K (.ref C_Road) "double" = some (some (.ref f11))) (l11 : K.lookup f11 = some ⟨oc11, od11, .func (PySem.W.fnOf "double" "Road.double" (defArgs (clsB (topS 21) 6)) (defBody (clsB (topS 21) 6)) (defScope (clsB (topS 21) 6)) .none kV11 dc11 pm11 an11 cd11 ct11), sl11⟩) (c11 : PySem.W.codeIn K cd11 "Road.double" = true) (k11 : PySem.W.keepIn K (.ref f11) = true)
    (i11 : PySem.W.isFn K (.ref f11) = true)
    (a12 : PySem.W.nsIn K mainGlobals "_law_told" = some (some (.ref f12))) (l12 : K.lookup f12 = some ⟨oc12, od12, .func (PySem.W.fnOf "_law_told" "_law_told" (defArgs (topS 29)) (defBody (topS 29)) (defScope (topS 29)) .none kV12 dc12 pm12 an12 cd12 ct12), sl12⟩) (c12 : PySem.W.codeIn K cd12 "_law_told" = true) (k12 : PySem.W.keepIn K (.ref f12) = true)
    (a13 : PySem.W.nsIn K mainGlobals "_law_due" = some (some (.ref f13))) (l13 : K.lookup f13 = some ⟨oc13, od13, .func (PySem.W.fnOf "_law_due" "_law_due" (defArgs (topS 30)) (defBody (topS 30)) (defScope (topS 30)) .none kV13 dc13 pm13 an13 cd13 ct13), sl13⟩) (c13 : PySem.W.codeIn K cd13 "_law_due" = true) (k13 : PySem.W.keepIn K (.ref f13) = true)
    (a14 : PySem.W.findIn K (.ref C_Road) "__init__" = some (some (.ref f14))) (l14 : K.lookup f14 = some ⟨oc14, od14, .func (PySem.W.fnOf "__init__" "Road.__init__" (defArgs (clsB (topS 21) 0)) (defBody (clsB (topS 21) 0)) (defScope (clsB (topS 21) 0)) .none (.ref D14) dc14 pm14 an14 cd14 ct14), sl14⟩) (c14 : PySem.W.codeIn K cd14 "Road.__init__" = true) (k14 : PySem.W.keepIn K (.ref f14) = true)
    (i14 : PySem.W.isFn K (.ref f14) = true)
    (n14 : PySem.W.nsIn K D14 "room" = some (some (.int 4 tk14)))
    (a15 : PySem.W.findIn K (.ref C_Road) "letters" = some (some (.ref f15))) (l15 : K.lookup f15 = some ⟨oc15, od15, .func (PySem.W.fnOf "letters" "Road.letters" (defArgs (clsB (topS 21) 2)) (defBody (clsB (topS 21) 2)) (defScope (clsB (topS 21) 2)) .none kV15 dc15 pm15 an15 cd15 ct15), sl15⟩) (c15 : PySem.W.codeIn K cd15 "Road.letters" = true) (k15 : PySem.W.keepIn K (.ref f15) = true)
    (i15 : PySem.W.isFn K (.ref f15) = true)
    (a16 : PySem.W.nsIn K mainGlobals "_law_right" = some (some (.ref f16))) (l16 : K.lookup f16 = some ⟨oc16, od16, .func (PySem.W.fnOf "_law_right" "_law_right" (defArgs (topS 31)) (defBody (topS 31)) (defScope (topS 31)) .none kV16 dc16 pm16 an16 cd16 ct16), sl16⟩) (c16 : PySem.W.codeIn K cd16 "_law_right" = true) (k16 : PySem.W.keepIn K (.ref f16) = true)
    (a17 : PySem.W.nsIn K mainGlobals "law" = some (some (.ref f17))) (l17 : K.lookup f17 = some ⟨oc17, od17, .func (PySem.W.fnOf "law" "law" (defArgs (topS 32)) (defBody (topS 32)) (defScope (topS 32)) .none kV17 dc17 pm17 an17 cd17 ct17), sl17⟩) (c17 : PySem.W.codeIn K cd17 "law" = true) (k17 : PySem.W.keepIn K (.ref f17) = true)
    (g_ROOM : PySem.W.nsIn K mainGlobals "ROOM" = some (some (.int 4 t_ROOM)))
    (ta_NoLetter : PySem.W.nsIn K mainGlobals "NoLetter" = some (some (.ref ANoLetter)))
    (ta_Full : PySem.W.nsIn K mainGlobals "Full" = some (some (.ref AFull)))
    (ta_ViewError : PySem.W.nsIn K mainGlobals "ViewError" = some (some (.ref AViewError)))
    (ta_NoScript : PySem.W.nsIn K mainGlobals "NoScript" = some (some (.ref ANoScript)))
    (ta_NoText : PySem.W.nsIn K mainGlobals "NoText" = some (some (.ref ANoText)))
    (ta_NoWatcher : PySem.W.nsIn K mainGlobals "NoWatcher" = some (some (.ref ANoWatcher)))
    (ta_NoDeal : PySem.W.nsIn K mainGlobals "NoDeal" = some (some (.ref ANoDeal)))
    (ta_NoEntry : PySem.W.nsIn K mainGlobals "NoEntry" = some (some (.ref ANoEntry)))
    (ta_NoLine : PySem.W.nsIn K mainGlobals "NoLine" = some (some (.ref ANoLine)))
    (ta_NoMoment : PySem.W.nsIn K mainGlobals "NoMoment" = some (some (.ref ANoMoment)))
    (ta_NoPaper : PySem.W.nsIn K mainGlobals "NoPaper" = some (some (.ref ANoPaper)))
    (ta_NoPerson : PySem.W.nsIn K mainGlobals "NoPerson" = some (some (.ref ANoPerson)))
    (ta_NoPiece : PySem.W.nsIn K mainGlobals "NoPiece" = some (some (.ref ANoPiece)))
    (ta_NoPlan : PySem.W.nsIn K mainGlobals "NoPlan" = some (some (.ref ANoPlan)))
    (ta_NoQuestion : PySem.W.nsIn K mainGlobals "NoQuestion" = some (some (.ref ANoQuestion)))
    (ta_NoRight : PySem.W.nsIn K mainGlobals "NoRight" = some (some (.ref ANoRight)))
    (hv1 : PySem.W.readsIn K AViewError (.type "type") = true)
    (hv2 : PySem.W.specialIn K (.ref AViewError) "__getattribute__" = some (some (.builtin "type.__getattribute__")))
    (hv3 : PySem.W.findCls K (.ref AViewError) (.type "type") "__init__" = some (.val (.builtin "ValueError.__init__")))
    (hv4 : PySem.W.specialIn K (.builtin "object.__class__") "__get__" = some (some (.builtin "getset_descriptor.__get__")))
    (hv5 : PySem.W.takesIn K (.builtin "object.__class__") = some true)
    (hv6 : PySem.W.subIn K (.ref AViewError) (.type "BaseException") = some true)
    (hv7 : PySem.W.hasDictIn K AViewError = true)
    (hv8 : PySem.W.typeIn K (.ref AViewError) = some (.type "type"))
    (p1NoLetter : K.lookup ANoLetter = some (excClassObj nmNoLetter qNoLetter ANoLetter NNoLetter bsNoLetter bmNoLetter true snNoLetter subNoLetter abNoLetter colNoLetter ddNoLetter g0NoLetter g1NoLetter g2NoLetter g3NoLetter g5NoLetter "ValueError.__new__"))
    (p2NoLetter : PySem.HandSPX.refsVE bmNoLetter = true)
    (p3NoLetter : PySem.W.findIn K (.ref ANoLetter) "__setattr__" = some (some (.builtin "object.__setattr__")))
    (p10NoLetter : PySem.W.findIn K (.ref ANoLetter) "i" = some none)
    (p11NoLetter : PySem.W.findIn K (.ref ANoLetter) "__init__" = some (some (.ref fINoLetter)))
    (p12NoLetter : PySem.W.typeIn K (.ref fINoLetter) = some (.type "function"))
    (p13NoLetter : K.lookup fINoLetter = some ⟨ocNoLetter, odNoLetter, .func (PySem.W.fnOf "__init__" "NoLetter.__init__" (defArgs st_NoLetter) (defBody st_NoLetter) (defScope st_NoLetter) .none kVNoLetter docNoLetter pmNoLetter anNoLetter cdvNoLetter ctNoLetter), oslNoLetter⟩)
    (p14NoLetter : PySem.W.codeIn K cdvNoLetter "NoLetter.__init__" = true)
    (p5NoLetter : PySem.W.typeIn K (.ref ANoLetter) = some (.type "type"))
    (p6NoLetter : PySem.W.keepIn K (.ref ANoLetter) = true)
    (e4NoLetter : PySem.W.subIn K (.ref ANoLetter) (.type "BaseException") = some true)
    (e15NoLetter : PySem.W.findIn K (.ref ANoLetter) "__getattribute__" = some (some (.builtin "BaseException.__getattribute__")))
    (e16NoLetter : PySem.W.findIn K (.ref ANoLetter) "__getattr__" = some none)
    (e17NoLetter : PySem.W.hasDictIn K ANoLetter = true)
    (e18NoLetter : PySem.W.findIn K (.ref ANoLetter) "__class__" = some (some (.builtin "object.__class__")))
    (e21NoLetter : PySem.W.mroIn K ANoLetter (.type "object") = some true)
    (e25NoLetter : PySem.W.subIn K (.ref ANoLetter) (.ref AViewError) = some true)
    (p5Full : PySem.W.typeIn K (.ref AFull) = some (.type "type"))
    (p6Full : PySem.W.keepIn K (.ref AFull) = true)
    (e4Full : PySem.W.subIn K (.ref AFull) (.type "BaseException") = some true)
    (e15Full : PySem.W.findIn K (.ref AFull) "__getattribute__" = some (some (.builtin "BaseException.__getattribute__")))
    (e16Full : PySem.W.findIn K (.ref AFull) "__getattr__" = some none)
    (e17Full : PySem.W.hasDictIn K AFull = true)
    (e18Full : PySem.W.findIn K (.ref AFull) "__class__" = some (some (.builtin "object.__class__")))
    (e21Full : PySem.W.mroIn K AFull (.type "object") = some true)
    (e25Full : PySem.W.subIn K (.ref AFull) (.ref AViewError) = some true)
    (z1Full : PySem.W.excIn K AFull [.type "ValueError", .type "Exception", .type "BaseException", .type "object"] "ValueError.__new__" = true)
    (y0NoLetter : PySem.W.kitOne K (.ref ANoLetter) (.ref AFull) = some false)
    (y0Full : PySem.W.kitOne K (.ref AFull) (.ref AFull) = some true)
    (y1NoLetter : PySem.W.kitOne K (.ref ANoLetter) (.ref ANoLetter) = some true)
    (y1Full : PySem.W.kitOne K (.ref AFull) (.ref ANoLetter) = some false)
    (y2NoLetter : PySem.W.kitOne K (.ref ANoLetter) (.type "ValueError") = some true)
    (y2Full : PySem.W.kitOne K (.ref AFull) (.type "ValueError") = some true)
    (y3NoLetter : PySem.W.kitAny K (.ref ANoLetter) [.ref ANoScript, .ref ANoText, .ref ANoWatcher] = some false)
    (y3Full : PySem.W.kitAny K (.ref AFull) [.ref ANoScript, .ref ANoText, .ref ANoWatcher] = some false)
    (y4NoLetter : PySem.W.kitAny K (.ref ANoLetter) [.ref ANoDeal, .ref ANoEntry, .ref ANoLine, .ref ANoMoment, .ref ANoPaper, .ref ANoPerson, .ref ANoPiece, .ref ANoPlan, .ref ANoQuestion, .ref ANoRight] = some false)
    (y4Full : PySem.W.kitAny K (.ref AFull) [.ref ANoDeal, .ref ANoEntry, .ref ANoLine, .ref ANoMoment, .ref ANoPaper, .ref ANoPerson, .ref ANoPiece, .ref ANoPlan, .ref ANoQuestion, .ref ANoRight] = some false)
    (z_ValueError : PySem.W.nsIn K mainGlobals "ValueError" = some none)
    (z_all : PySem.W.nsIn K mainGlobals "all" = some none)
    (z_bool : PySem.W.nsIn K mainGlobals "bool" = some none)
    (z_enumerate : PySem.W.nsIn K mainGlobals "enumerate" = some none)
    (z_int : PySem.W.nsIn K mainGlobals "int" = some none)
    (z_isinstance : PySem.W.nsIn K mainGlobals "isinstance" = some none)
    (z_len : PySem.W.nsIn K mainGlobals "len" = some none)
    (z_min : PySem.W.nsIn K mainGlobals "min" = some none)
    (z_range : PySem.W.nsIn K mainGlobals "range" = some none)
    (z_repr : PySem.W.nsIn K mainGlobals "repr" = some none)
    (z_tuple : PySem.W.nsIn K mainGlobals "tuple" = some none)
    : Txt K w mg ⟨ANoLetter, AFull, AViewError, ANoScript, ANoText, ANoWatcher, ANoDeal, ANoEntry, ANoLine, ANoMoment, ANoPaper, ANoPerson, ANoPiece, ANoPlan, ANoQuestion, ANoRight⟩ := {
    wld := hwld,
    d_is_whole := DF.mk' X G (fun_mk (st := topS 18) l0 c0 k0) a0 (fun F => F.binds (ps := ["thing"]) fun _ _ _ _ _ _ us hl => (match us, hl with | [_], _ => rfl)),
    d__law_begin := DF.mk' X G (fun_mk (st := topS 23) l1 c1 k1) a1 (fun F => F.binds (ps := ["_law_script"]) fun _ _ _ _ _ _ us hl => (match us, hl with | [_], _ => rfl)),
    d__law_pick := DF.mk' X G (fun_mk (st := topS 24) l2 c2 k2) a2 (fun F => F.binds (ps := ["_law_pot", "_law_many"]) fun _ _ _ _ _ _ us hl => (match us, hl with | [_, _], _ => rfl)),
    d__law_of := DF.mk' X G (fun_mk (st := topS 25) l3 c3 k3) a3 (fun F => F.binds (ps := ["_law_pot", "_law_some"]) fun _ _ _ _ _ _ us hl => (match us, hl with | [_, _], _ => rfl)),
    d__law_letter := DF.mk' X G (fun_mk (st := topS 26) l4 c4 k4) a4 (fun F => F.binds (ps := ["_law_pot"]) fun _ _ _ _ _ _ us hl => (match us, hl with | [_], _ => rfl)),
    d__law_thing := DF.mk' X G (fun_mk (st := topS 27) l5 c5 k5) a5 (fun F => F.binds (ps := ["_law_pot", "_law_many"]) fun _ _ _ _ _ _ us hl => (match us, hl with | [_, _], _ => rfl)),
    d__law_refusal := DF.mk' X G (fun_mk (st := topS 28) l6 c6 k6) a6 (fun F => F.binds (ps := ["_law_e"]) fun _ _ _ _ _ _ us hl => (match us, hl with | [_], _ => rfl)),
    d_Road_look_letter := DM.mk' (fun_mk (st := clsB (topS 21) 3) l7 c7 k7) (by rw [hcls_Road]; exact a7) i7 (fun F => F.binds (ps := ["self", "i"]) fun _ _ _ _ _ _ us hl => (match us, hl with | [_, _], _ => rfl)),
    d_Road_bring := DM.mk' (fun_mk (st := clsB (topS 21) 4) l8 c8 k8) (by rw [hcls_Road]; exact a8) i8 (fun F => F.binds (ps := ["self", "i"]) fun _ _ _ _ _ _ us hl => (match us, hl with | [_, _], _ => rfl)),
    d_Road_lose := DM.mk' (fun_mk (st := clsB (topS 21) 5) l9 c9 k9) (by rw [hcls_Road]; exact a9) i9 (fun F => F.binds (ps := ["self", "i"]) fun _ _ _ _ _ _ us hl => (match us, hl with | [_, _], _ => rfl)),
    d_Road_put := DM.mk' (fun_mk (st := clsB (topS 21) 1) l10 c10 k10) (by rw [hcls_Road]; exact a10) i10 (fun F => F.binds (ps := ["self", "letter"]) fun _ _ _ _ _ _ us hl => (match us, hl with | [_, _], _ => rfl)),
    d_Road_double := DM.mk' (fun_mk (st := clsB (topS 21) 6) l11 c11 k11) (by rw [hcls_Road]; exact a11) i11 (fun F => F.binds (ps := ["self", "i"]) fun _ _ _ _ _ _ us hl => (match us, hl with | [_, _], _ => rfl)),
    d__law_told := DF.mk' X G (fun_mk (st := topS 29) l12 c12 k12) a12 (fun F => F.binds (ps := ["_law_road", "_law_way", "_law_thing_here"]) fun _ _ _ _ _ _ us hl => (match us, hl with | [_, _, _], _ => rfl)),
    d__law_due := DF.mk' X G (fun_mk (st := topS 30) l13 c13 k13) a13 (fun F => F.binds (ps := ["_law_own", "_law_space", "_law_way", "_law_thing_here"]) fun _ _ _ _ _ _ us hl => (match us, hl with | [_, _, _, _], _ => rfl)),
    d_Road___init__ := DID.mk' 1 (fund_mk (st := clsB (topS 21) 0) l14 c14 k14 n14) (fun_mk (st := clsB (topS 21) 0) l14 c14 k14) (by rw [hcls_Road]; exact ⟨cm_Road, a14, i14, ck_Road⟩) (by rw [hcls_Road]; exact PySem.W.mg_of X G cw_Road) rfl (fun _ _ _ _ _ _ us ks h1 h2 => (match us, ks, h1, h2 with | [_], [_], _, _ => ⟨_, _, _, _, _, _, rfl, rfl, rfl⟩)),
    dk_Road___init__ := DIK.mk' (fund_mk (st := clsB (topS 21) 0) l14 c14 k14 n14) (fun_mk (st := clsB (topS 21) 0) l14 c14 k14) (by rw [hcls_Road]; exact ⟨cm_Road, a14, i14, ck_Road⟩) (by rw [hcls_Road]; exact PySem.W.mg_of X G cw_Road) rfl (fun _ _ _ _ _ _ us ws h1 h2 => (match us, ws, h1, h2 with | [_], [_], _, _ => rfl)),
    d_Road_letters := DM.mk' (fun_mk (st := clsB (topS 21) 2) l15 c15 k15) (by rw [hcls_Road]; exact a15) i15 (fun F => F.binds (ps := ["self"]) fun _ _ _ _ _ _ us hl => (match us, hl with | [_], _ => rfl)),
    d__law_right := DF.mk' X G (fun_mk (st := topS 31) l16 c16 k16) a16 (fun F => F.binds (ps := ["_law_pot"]) fun _ _ _ _ _ _ us hl => (match us, hl with | [_], _ => rfl)),
    d_law := DF.mk' X G (fun_mk (st := topS 32) l17 c17 k17) a17 (fun F => F.binds (ps := ["_law_script"]) fun _ _ _ _ _ _ us hl => (match us, hl with | [_], _ => rfl)),
    kc_Road := (by rw [hcls_Road]; exact ⟨cp_Road, ch_Road, co_Road, cs_Road⟩),
    kn_Road_room := (by rw [hcls_Road]; exact cf_Road_room),
    kn_Road_under_way := (by rw [hcls_Road]; exact cf_Road_under_way),
    m_NoLetter := PySem.W.mg_of X G ta_NoLetter,
    m_Full := PySem.W.mg_of X G ta_Full,
    m_ViewError := PySem.W.mg_of X G ta_ViewError,
    m_NoScript := PySem.W.mg_of X G ta_NoScript,
    m_NoText := PySem.W.mg_of X G ta_NoText,
    m_NoWatcher := PySem.W.mg_of X G ta_NoWatcher,
    m_NoDeal := PySem.W.mg_of X G ta_NoDeal,
    m_NoEntry := PySem.W.mg_of X G ta_NoEntry,
    m_NoLine := PySem.W.mg_of X G ta_NoLine,
    m_NoMoment := PySem.W.mg_of X G ta_NoMoment,
    m_NoPaper := PySem.W.mg_of X G ta_NoPaper,
    m_NoPerson := PySem.W.mg_of X G ta_NoPerson,
    m_NoPiece := PySem.W.mg_of X G ta_NoPiece,
    m_NoPlan := PySem.W.mg_of X G ta_NoPlan,
    m_NoQuestion := PySem.W.mg_of X G ta_NoQuestion,
    m_NoRight := PySem.W.mg_of X G ta_NoRight,
    xv := ⟨hv1, hv2, hv3⟩,
    xe_NoLetter := ⟨e15NoLetter, e16NoLetter, e4NoLetter, e17NoLetter, e18NoLetter, hv4, hv5, e21NoLetter⟩,
    xm_NoLetter := PySem.W.exm_ref hv6 hv7 hv8 e25NoLetter,
    xe_Full := ⟨e15Full, e16Full, e4Full, e17Full, e18Full, hv4, hv5, e21Full⟩,
    xm_Full := PySem.W.exm_ref hv6 hv7 hv8 e25Full,
    xo_NoLetter := oex_mk p1NoLetter p2NoLetter p3NoLetter e4NoLetter p5NoLetter p6NoLetter,
    xn_NoLetter := p10NoLetter,
    xi_NoLetter := ⟨fINoLetter, ocNoLetter, odNoLetter, kVNoLetter, docNoLetter, pmNoLetter, anNoLetter, cdvNoLetter, ctNoLetter, oslNoLetter, p11NoLetter, p12NoLetter, p13NoLetter, p14NoLetter⟩,
    xf_NoLetter := ⟨e15NoLetter, e16NoLetter, e4NoLetter, e17NoLetter⟩,
    x0_Full := ⟨⟨_, _, _, _, PySem.F.excBase_ValueError, z1Full⟩, PySem.W.mg_of X G ta_Full, p6Full, e4Full, p5Full⟩,
    kq0_NoLetter := y0NoLetter,
    kq0_Full := y0Full,
    kq1_NoLetter := y1NoLetter,
    kq1_Full := y1Full,
    kq2_NoLetter := y2NoLetter,
    kq2_Full := y2Full,
    kq3_NoLetter := y3NoLetter,
    kq3_Full := y3Full,
    kq4_NoLetter := y4NoLetter,
    kq4_Full := y4Full,
    c_ROOM := ⟨_, PySem.W.mg_of X G g_ROOM⟩,
    n_ValueError := PySem.W.mg_none_of X G z_ValueError,
    n_all := PySem.W.mg_none_of X G z_all,
    n_bool := PySem.W.mg_none_of X G z_bool,
    n_enumerate := PySem.W.mg_none_of X G z_enumerate,
    n_int := PySem.W.mg_none_of X G z_int,
    n_isinstance := PySem.W.mg_none_of X G z_isinstance,
    n_len := PySem.W.mg_none_of X G z_len,
    n_min := PySem.W.mg_none_of X G z_min,
    n_range := PySem.W.mg_none_of X G z_range,
    n_repr := PySem.W.mg_none_of X G z_repr,
    n_tuple := PySem.W.mg_none_of X G z_tuple }
theorem law_of {l : PySem.W.OpenLaw} {w : World} {K : PySem.W.Frag} {mg : Str → Option Value} {A : FA} {fa : Addr} (T : Txt K w mg A) (hfa : mg "law" = some (.ref fa)) {Y : Fn → Prop} (ht : Y (f_law A)) :
    ∃ (f : Fn) (fd : FuncData), (∀ (s : Shared) (v : Value), BindsTo s fd ⟨[v], []⟩ [("_law_script", v)]) ∧ (∀ base : Heap, K.In base → base.Ns mainGlobals mg → FnG l.prog w K mg base 7 fa fd ["_law_script"] (spG K 1 f)) ∧ Y f := by
  obtain ⟨f, fd, F, hm, hb⟩ := T.d_law.ex
  cases hfa.symm.trans hm
  refine ⟨_, fd, ?_, fun base _ _ => ok_law T F, ht⟩
  obtain ⟨oc, od, kV, doc, pm, an, cdv, ct, osl, rfl, _, _⟩ := F.ex
  exact fun s v => .of_eq rfl
abbrev lawLevel : Nat := 7
end G

set_option Elab.async false
set_option linter.all false
set_option maxRecDepth 100000
namespace G
variable [Wld]
open PySem PySem.Spec PyProof.Rows L2
noncomputable def t__law_begin_2 : M Fl := (mRet (mBox (mLst (mCons (mD (mVar 2)) (mCons (mVar 1) (mCons (mC (.int 0)) mNil))))))
theorem e__law_begin_2 : type_of% @t__law_begin_2.eq_1 := @t__law_begin_2.eq_1
noncomputable def t__law_begin_1 : M Fl := mSeq (mFor (gtTup 2 (gtCons (gtName 3) (gtCons (gtName 4) gtNil))) (bnd (mCons (mD (mSl (mVar 0) (pur none) (bnd (mC (.int 63)) asI))) mNil) srcEnum) (mSeq (mSet 1 (mBin (gP dMod) (mBin gAdd (mBin gAdd (mBin gAdd (mBin (gP dMul) (mVar 1) (mC (.int 1000003))) (mBin (gP dMod) (mVar 4) (mBin (gP dPow) (mC (.int 10)) (mC (.int 40))))) (mBin (gP dMul) (mC (.int 7919)) (mVar 3))) (mC (.int 1))) (mC (.int 2305843009213693951)))) (mIfS (bnd (mBin (gP fun x y => dLe y x) (mVar 4) (mBin (gP dPow) (mC (.int 10)) (mC (.int 18)))) asB) (mDrop (mMth "list" gAppend (mVar 2) (mCons (mVar 4) mNil))) mSkip))) (t__law_begin_2)
theorem e__law_begin_1 : type_of% @t__law_begin_1.eq_1 := @t__law_begin_1.eq_1
theorem e__law_begin_0 : b__law_begin = mSeq (mPar2 1 2 (mC (.int 271828183)) (mBox (mLst mNil))) (t__law_begin_1) := rfl
noncomputable def t__law_pick_5 : M Fl := (mRet (mBin (gP dMod) (mBin gAdd (mBin (gP dDiv) (mBin (gP dMod) (mBin (gP dMul) (mVar 3) (mVar 3)) (mC (.int 2305843009213693907))) (mC (.int 1009))) (mBin (gP dDiv) (mVar 3) (mC (.int 31)))) (mVar 1)))
theorem e__law_pick_5 : type_of% @t__law_pick_5.eq_1 := @t__law_pick_5.eq_1
noncomputable def t__law_pick_4 : M Fl := mSeq (mSet 3 (mBin (gP dMod) (mBin gAdd (mBin gAdd (mBin gIx (mVar 0) (mC (.int 1))) (mBin (gP dMul) (mBin (gP dMul) (mBin (gP dMul) (mC (.int 60013)) (mVar 2)) (mVar 2)) (mVar 2))) (mBin (gP dMul) (mC (.int 101)) (mVar 2))) (mC (.int 2305843009213693921)))) (t__law_pick_5)
theorem e__law_pick_4 : type_of% @t__law_pick_4.eq_1 := @t__law_pick_4.eq_1
noncomputable def t__law_pick_3 : M Fl := mSeq (mSetI (mVar 2) (mVar 0) (mC (.int 2))) (t__law_pick_4)
theorem e__law_pick_3 : type_of% @t__law_pick_3.eq_1 := @t__law_pick_3.eq_1
noncomputable def t__law_pick_2 : M Fl := mSeq (mSet 2 (mBin gAdd (mBin gIx (mVar 0) (mC (.int 2))) (mC (.int 1)))) (t__law_pick_3)
theorem e__law_pick_2 : type_of% @t__law_pick_2.eq_1 := @t__law_pick_2.eq_1
noncomputable def t__law_pick_1 : M Fl := mSeq (mIfS (bnd (mBin (gEq true) (mBin gIx (mVar 0) (mC (.int 0))) (mLst mNil)) asB) (mSeq (mSet 4 (mBin (gP dMod) (mBin gIx (mBin gIx (mVar 0) (mC (.int 0))) (mC (.int 0))) (mVar 1))) (mSeq (mSetI (mBin (gP dDiv) (mBin gIx (mBin gIx (mVar 0) (mC (.int 0))) (mC (.int 0))) (mVar 1)) (mBin gIx (mVar 0) (mC (.int 0))) (mC (.int 0))) (mRet (mVar 4)))) mSkip) (t__law_pick_2)
theorem e__law_pick_1 : type_of% @t__law_pick_1.eq_1 := @t__law_pick_1.eq_1
theorem e__law_pick_0 : b__law_pick = mSeq (whileL (mAnd (bnd (mBin (gEq true) (mBin gIx (mVar 0) (mC (.int 0))) (mLst mNil)) asB) (bnd (mBin (gEq false) (mBin gIx (mBin gIx (mVar 0) (mC (.int 0))) (mC (.int 0))) (mC (.int 0))) asB)) (mDrop (mMth "list" gPop (mBin gIx (mVar 0) (mC (.int 0))) (mCons (mC (.int 0)) mNil))) 100) (t__law_pick_1) := rfl
noncomputable def t__law_letter_1 : M Fl := (mRet (mCall 2 f__law_of (mCons (mVar 0) (mCons (mBin gAdd (mVar 1) (mLst (mCons (mTup (mCons (mC (.str "change")) (mCons (mC (.int 0)) (mCons (mC (.int 0)) (mCons (mC (.int 1)) (mCons (mC (.int 2)) (mCons (mTup (mCons (mTup (mCons (mTup (mCons (mTup (mCons (mC (.int 1)) (mCons (mC (.str "a")) mNil))) mNil)) (mCons (mTup mNil) mNil))) mNil)) mNil))))))) (mCons (mTup (mCons (mC (.str "have")) (mCons (mC (.int 0)) (mCons (mC (.int 0)) (mCons (mCall 2 f__law_pick (mCons (mVar 0) (mCons (mC (.int 99)) mNil))) mNil))))) mNil)))) mNil))))
theorem e__law_letter_1 : type_of% @t__law_letter_1.eq_1 := @t__law_letter_1.eq_1
theorem e__law_letter_0 : b__law_letter = mSeq (mSet 1 (mLst (mCons (mTup (mCons (mC (.str "have")) (mCons (mC (.int 0)) (mCons (mC (.int 0)) (mCons (mUn gNeg (mC (.int 1))) mNil))))) (mCons (mTup (mCons (mC (.str "have")) (mCons (mC (.int 1)) (mCons (mC (.int 2)) (mCons (mC (.int 3)) mNil))))) (mCons (mTup (mCons (mC (.str "whole")) (mCons (mC (.int 0)) (mCons (mC (.int 0)) (mCons (mC (.int 1)) (mCons (mTup (mCons (mTup (mCons (mTup (mCons (mC (.int 1)) (mCons (mC (.str "a")) mNil))) mNil)) mNil)) mNil)))))) (mCons (mTup (mCons (mC (.str "whole")) (mCons (mC (.int 0)) (mCons (mC (.int 0)) (mCons (mC (.int 0)) (mCons (mTup (mCons (mTup mNil) mNil)) mNil)))))) mNil)))))) (t__law_letter_1) := rfl
noncomputable def t__law_thing_4 : M Fl := (mRet (mVar 3))
theorem e__law_thing_4 : type_of% @t__law_thing_4.eq_1 := @t__law_thing_4.eq_1
noncomputable def t__law_thing_3 : M Fl := mSeq (mFor (gtName 4) (bnd (mCons (mBin (gP dMul) (mCall 2 f__law_of (mCons (mVar 0) (mCons (mLst (mCons (mC (.int 0)) (mCons (mC (.int 0)) (mCons (mC (.int 0)) (mCons (mC (.int 1)) (mCons (mC (.int 18)) mNil)))))) mNil))) (bnd (mCons (mBin (gEq false) (mVar 2) (mC (.int 7))) mNil) (g1 gInt))) mNil) srcR1) (mSet 3 (mCall 2 f__law_of (mCons (mVar 0) (mCons (mLst (mCons (mTup (mCons (mVar 3) mNil)) (mCons (mD (mLst (mCons (mVar 3) mNil))) mNil))) mNil))))) (t__law_thing_4)
theorem e__law_thing_3 : type_of% @t__law_thing_3.eq_1 := @t__law_thing_3.eq_1
noncomputable def t__law_thing_2 : M Fl := mSeq (mSet 3 (mCall 2 f__law_of (mCons (mVar 0) (mCons (mLst (mCons (mVar 1) (mCons (mUn gNeg (mC (.int 1))) (mCons (mBin gAdd (mVar 1) (mC (.int 7))) (mCons (mC (.bl true)) (mCons (mC (.bl false)) (mCons (mC .non) (mCons (mC (.str "0")) (mCons (mC (.str "")) (mCons (mTup mNil) (mCons (mD (mLst (mCons (mC (.int 0)) mNil))) (mCons (mTup (mCons (mC (.int 0)) mNil)) (mCons (mD mDn) (mCons (mBin (gP dPow) (mC (.int 10)) (mC (.int 30))) mNil)))))))))))))) mNil)))) (t__law_thing_3)
theorem e__law_thing_2 : type_of% @t__law_thing_2.eq_1 := @t__law_thing_2.eq_1
noncomputable def t__law_thing_1 : M Fl := mSeq (mIfS (mAnd (bnd (mBin (gP dLt) (mVar 2) (mC (.int 5))) asB) (bnd (mBin (gP fun x y => dLt y x) (mVar 1) (mC (.int 0))) asB)) (mRet (mCall 2 f__law_of (mCons (mVar 0) (mCons (mLst (mCons (mC (.int 0)) (mCons (mBin (gP dSub) (mVar 1) (mC (.int 1))) (mCons (mCall 2 f__law_pick (mCons (mVar 0) (mCons (mVar 1) mNil))) mNil)))) mNil)))) mSkip) (t__law_thing_2)
theorem e__law_thing_1 : type_of% @t__law_thing_1.eq_1 := @t__law_thing_1.eq_1
theorem e__law_thing_0 : b__law_thing = mSeq (mSet 2 (mCall 2 f__law_pick (mCons (mVar 0) (mCons (mC (.int 8)) mNil)))) (t__law_thing_1) := rfl
noncomputable def t__law_refusal_3 (A : FA) : M Fl := (mRet (mIf (bnd (bnd (mVar 0) (gIsY (kt_0 A))) asB) (mC (.str "full")) (mBin gAdd (mC (.str "letter ")) (bnd (mCons (bnd (mVar 0) (gAttY [A.NoLetter] "i")) mNil) (g1 gRepr)))))
theorem e__law_refusal_3 : type_of% @t__law_refusal_3.eq_1 := @t__law_refusal_3.eq_1
noncomputable def t__law_refusal_2 (A : FA) : M Fl := mSeq (mIfS (mOr (bnd (mVar 1) asB) (mAnd (bnd (bnd (mVar 0) (gIsY (kt_0 A))) asB) (bnd (bnd (mVar 0) (gIsY (kt_1 A))) asB))) (mRet (mC (.str "odd"))) mSkip) (t__law_refusal_3 A)
theorem e__law_refusal_2 : type_of% @t__law_refusal_2.eq_1 := @t__law_refusal_2.eq_1
noncomputable def t__law_refusal_1 (A : FA) : M Fl := mSeq (mSet 1 (mOrV (mVar 1) (mOrV (bnd (mVar 0) (gIsY (kt_3 A))) (mNotV (bnd (mVar 0) (gIsY (kt_2 A))))))) (t__law_refusal_2 A)
theorem e__law_refusal_1 : type_of% @t__law_refusal_1.eq_1 := @t__law_refusal_1.eq_1
theorem e__law_refusal_0 {A : FA} : b__law_refusal A = mSeq (mSet 1 (bnd (mVar 0) (gIsY (kt_4 A)))) (t__law_refusal_1 A) := rfl
noncomputable def t_Road_bring_1 (A : FA) : M (Fl ⊕ Ex) := (yl (mRet (mMth "list" gPop (mFld 0 "under_way" (mVar 0)) (mCons (mVar 1) mNil))))
theorem e_Road_bring_1 : type_of% @t_Road_bring_1.eq_1 := @t_Road_bring_1.eq_1
theorem e_Road_bring_0 {A : FA} : b_Road_bring A = ySeq (yDrop (mMethY 0 "look_letter" 2 [] (f_Road_look_letter A) (mVar 0) (mCons (mVar 1) mNil))) (t_Road_bring_1 A) := rfl
noncomputable def t_Road_lose_1 (A : FA) : M (Fl ⊕ Ex) := (yl (mDrop (mMth "list" gPop (mFld 0 "under_way" (mVar 0)) (mCons (mVar 1) mNil))))
theorem e_Road_lose_1 : type_of% @t_Road_lose_1.eq_1 := @t_Road_lose_1.eq_1
theorem e_Road_lose_0 {A : FA} : b_Road_lose A = ySeq (yDrop (mMethY 0 "look_letter" 2 [] (f_Road_look_letter A) (mVar 0) (mCons (mVar 1) mNil))) (t_Road_lose_1 A) := rfl
noncomputable def t_Road_put_2 : M Fl := (mRet (mC (.bl true)))
theorem e_Road_put_2 : type_of% @t_Road_put_2.eq_1 := @t_Road_put_2.eq_1
noncomputable def t_Road_put_1 : M Fl := mSeq (mDrop (mMth "list" gAppend (mFld 0 "under_way" (mVar 0)) (mCons (mVar 1) mNil))) (t_Road_put_2)
theorem e_Road_put_1 : type_of% @t_Road_put_1.eq_1 := @t_Road_put_1.eq_1
theorem e_Road_put_0 : b_Road_put = mSeq (mIfS (bnd (mBin (gP fun x y => dLe y x) (bnd (mCons (mFld 0 "under_way" (mVar 0)) mNil) (g1 gLen)) (mFld 0 "room" (mVar 0))) asB) (mRet (mC (.bl false))) mSkip) (t_Road_put_1) := rfl
noncomputable def t_Road_double_1 (A : FA) : M (Fl ⊕ Ex) := (yIf (mNot (bnd (mMeth 0 "put" 2 [] f_Road_put (mVar 0) (mCons (mBin gIx (mFld 0 "under_way" (mVar 0)) (mVar 1)) mNil)) asB)) (yRaise0 A.Full) (yl mSkip))
theorem e_Road_double_1 : type_of% @t_Road_double_1.eq_1 := @t_Road_double_1.eq_1
theorem e_Road_double_0 {A : FA} : b_Road_double A = ySeq (yDrop (mMethY 0 "look_letter" 2 [] (f_Road_look_letter A) (mVar 0) (mCons (mVar 1) mNil))) (t_Road_double_1 A) := rfl
noncomputable def t__law_told_2 (A : FA) : M Fl := (mRet (mVar 3))
theorem e__law_told_2 : type_of% @t__law_told_2.eq_1 := @t__law_told_2.eq_1
noncomputable def t__law_told_1 (A : FA) : M Fl := mSeq (mTryY [A.NoLetter, A.Full] 4 (yIf (bnd (mBin (gEq false) (mVar 1) (mC (.str "bring"))) asB) (ySet 3 (mBinY gAdd (yl (mC (.str "told "))) (bnY (mConsY (mMethY 0 "bring" 2 [] (f_Road_bring A) (mVar 0) (mCons (mVar 2) mNil)) mNilY) fun rs => yl ((g1 gRepr) rs)))) (ySet 3 (mBinY gAdd (yl (mC (.str "told "))) (bnY (mConsY (mIfY (bnd (mBin (gEq false) (mVar 1) (mC (.str "lose"))) asB) (mMethY 0 "lose" 2 [] (f_Road_lose A) (mVar 0) (mCons (mVar 2) mNil)) (mMethY 0 "double" 2 [] (f_Road_double A) (mVar 0) (mCons (mVar 2) mNil))) mNilY) fun rs => yl ((g1 gRepr) rs))))) (mSet 3 (mCall 1 (f__law_refusal A) (mCons (mVar 4) mNil)))) (t__law_told_2 A)
theorem e__law_told_1 : type_of% @t__law_told_1.eq_1 := @t__law_told_1.eq_1
theorem e__law_told_0 {A : FA} : b__law_told A = mSeq (mSet 3 (mC .non)) (t__law_told_1 A) := rfl
noncomputable def t__law_due_3 : M Fl := (mRet (mIf (bnd (mBin (gEq false) (mVar 2) (mC (.str "bring"))) asB) (mBin gAdd (mC (.str "told ")) (bnd (mCons (mVar 4) mNil) (g1 gRepr))) (mC (.str "told None"))))
theorem e__law_due_3 : type_of% @t__law_due_3.eq_1 := @t__law_due_3.eq_1
noncomputable def t__law_due_2 : M Fl := mSeq (mSet 4 (mMth "list" gPop (mVar 0) (mCons (mVar 3) mNil))) (t__law_due_3)
theorem e__law_due_2 : type_of% @t__law_due_2.eq_1 := @t__law_due_2.eq_1
noncomputable def t__law_due_1 : M Fl := mSeq (mIfS (bnd (mBin (gEq false) (mVar 2) (mC (.str "double"))) asB) (mSeq (mIfS (bnd (mBin (gP fun x y => dLe y x) (bnd (mCons (mVar 0) mNil) (g1 gLen)) (mVar 1)) asB) (mRet (mC (.str "full"))) mSkip) (mSeq (mDrop (mMth "list" gAppend (mVar 0) (mCons (mBin gIx (mVar 0) (mVar 3)) mNil))) (mRet (mC (.str "told None"))))) mSkip) (t__law_due_2)
theorem e__law_due_1 : type_of% @t__law_due_1.eq_1 := @t__law_due_1.eq_1
theorem e__law_due_0 : b__law_due = mSeq (mIfS (mOr (mNot (bnd (mIsi .int (mVar 3)) asB)) (mOr (bnd (mIsi .bool (mVar 3)) asB) (mNot (bnd (mChain (gP dLe) (gP dLt) (mC (.int 0)) (mVar 3) (bnd (mCons (mVar 0) mNil) (g1 gLen))) asB)))) (mRet (mBin gAdd (mC (.str "letter ")) (bnd (mCons (mVar 3) mNil) (g1 gRepr)))) mSkip) (t__law_due_1) := rfl
noncomputable def t_Road___init___1 : M Fl := (mSetF 0 "under_way" (mBox (mLst mNil)) (mVar 0))
theorem e_Road___init___1 : type_of% @t_Road___init___1.eq_1 := @t_Road___init___1.eq_1
theorem e_Road___init___0 : b_Road___init__ = mSeq (mSetF 0 "room" (mVar 1) (mVar 0)) (t_Road___init___1) := rfl
noncomputable def t__law_right_4 (A : FA) : M Fl := (mRet (mC (.bl true)))
theorem e__law_right_4 : type_of% @t__law_right_4.eq_1 := @t__law_right_4.eq_1
noncomputable def t__law_right_3 (A : FA) : M Fl := mSeq (mFor (gtName 3) (bnd (mCons (mCall 2 f__law_pick (mCons (mVar 0) (mCons (mC (.int 31)) mNil))) mNil) srcR1) (mSeq (mPar2 6 7 (mCall 2 f__law_pick (mCons (mVar 0) (mCons (mC (.int 2)) mNil))) (mCall 2 f__law_of (mCons (mVar 0) (mCons (mLst (mCons (mC (.str "put")) (mCons (mC (.str "put")) (mCons (mC (.str "put")) (mCons (mC (.str "bring")) (mCons (mC (.str "lose")) (mCons (mC (.str "double")) (mCons (mC (.str "double")) mNil)))))))) mNil)))) (mSeq (mPar3 8 9 10 (mBin gIx (mVar 2) (mVar 6)) (mBin gIx (mVar 5) (mVar 6)) (mBin gIx (mVar 4) (mVar 6))) (mSeq (mIfS (bnd (mBin (gEq false) (mVar 7) (mC (.str "put"))) asB) (mSeq (mPar2 12 13 (mCall 1 f__law_letter (mCons (mVar 0) mNil)) (mBin (gP dLt) (bnd (mCons (mVar 9) mNil) (g1 gLen)) (mVar 10))) (mSeq (mIfS (bnd (mBin (gEq true) (bnd (mCons (mMeth 0 "put" 2 [] f_Road_put (mVar 8) (mCons (mVar 12) mNil)) mNil) (g1 gRepr)) (bnd (mCons (mVar 13) mNil) (g1 gRepr))) asB) (mRet (mC (.bl false))) mSkip) (mDrop (mMth "list" gExtend (mVar 9) (mCons (mBin gMulL (mLst (mCons (mVar 12) mNil)) (bnd (mCons (mVar 13) mNil) (g1 gInt))) mNil))))) (mSeq (mSet 11 (mCall 2 f__law_thing (mCons (mVar 0) (mCons (bnd (mCons (mVar 9) mNil) (g1 gLen)) mNil)))) (mIfS (bnd (mBin (gEq true) (mCall 3 (f__law_told A) (mCons (mVar 8) (mCons (mVar 7) (mCons (mVar 11) mNil)))) (mCall 4 f__law_due (mCons (mVar 9) (mCons (mVar 10) (mCons (mVar 7) (mCons (mVar 11) mNil)))))) asB) (mRet (mC (.bl false))) mSkip))) (mIfS (bnd (mBin (gEq true) (mLc [15] (gtName 15) (mSrc (mVar 2)) (pur true) (bnd (mCons (mMeth 0 "letters" 1 [] f_Road_letters (mVar 15) mNil) mNil) (g1 gRepr))) (mLc [15] (gtName 15) (mSrc (mVar 5)) (pur true) (bnd (mCons (bnd (mCons (mVar 15) mNil) (g1 gTuple)) mNil) (g1 gRepr)))) asB) (mRet (mC (.bl false))) mSkip))))) (t__law_right_4 A)
theorem e__law_right_3 : type_of% @t__law_right_3.eq_1 := @t__law_right_3.eq_1
noncomputable def t__law_right_2 (A : FA) : M Fl := mSeq (mPar2 4 5 (mLc [14] (gtName 14) (mSrc (mVar 1)) (pur true) (mIf (bnd (mBin (gIsN false) (mVar 14) (mC .non)) asB) (mC (.int 4)) (mVar 14))) (mLst (mCons (mBox (mLst mNil)) (mCons (mBox (mLst mNil)) mNil)))) (t__law_right_3 A)
theorem e__law_right_2 : type_of% @t__law_right_2.eq_1 := @t__law_right_2.eq_1
noncomputable def t__law_right_1 (A : FA) : M Fl := mSeq (mSet 2 (mLc [14] (gtName 14) (mSrc (mVar 1)) (pur true) (mIf (bnd (mBin (gIsN false) (mVar 14) (mC .non)) asB) (mMake 0 2 f_Road___init__ (pur (List.map R.d [.int 4]))) (mMake 0 2 f_Road___init__ (mCons (mVar 14) mNil))))) (t__law_right_2 A)
theorem e__law_right_1 : type_of% @t__law_right_1.eq_1 := @t__law_right_1.eq_1
theorem e__law_right_0 {A : FA} : b__law_right A = mSeq (mSet 1 (mLst (mCons (mCall 2 f__law_of (mCons (mVar 0) (mCons (mLst (mCons (mC (.int 1)) (mCons (mC (.int 2)) (mCons (mC (.int 4)) (mCons (mC (.int 7)) (mCons (mC .non) mNil)))))) mNil))) (mCons (mCall 2 f__law_of (mCons (mVar 0) (mCons (mLst (mCons (mC (.int 1)) (mCons (mC (.int 3)) (mCons (mC .non) mNil)))) mNil))) mNil)))) (t__law_right_1 A) := rfl
noncomputable def t_law_2 (A : FA) : M Fl := (mRet (bnd (mCons (mLc [2] (gtName 2) (bnd (mCons (mBin gAdd (mC (.int 1)) (bnd (mCons (bnd (mCons (mVar 0) mNil) (g1 gLen)) (mCons (mC (.int 2)) mNil)) (g2I min2))) mNil) srcR1) (pur true) (mCall 1 (f__law_right A) (mCons (mVar 1) mNil))) mNil) (g1 (gBls fun bs => bs.all id))))
theorem e_law_2 : type_of% @t_law_2.eq_1 := @t_law_2.eq_1
noncomputable def t_law_1 (A : FA) : M Fl := mSeq (mIfS (bnd (mBin (gEq true) (bnd (mCons (mC (.int 4)) mNil) (g1 gRepr)) (mC (.str "4"))) asB) (mRet (mC (.bl false))) mSkip) (t_law_2 A)
theorem e_law_1 : type_of% @t_law_1.eq_1 := @t_law_1.eq_1
theorem e_law_0 {A : FA} : b_law A = mSeq (mSet 1 (mCall 1 f__law_begin (mCons (mVar 0) mNil))) (t_law_1 A) := rfl
end G

set_option Elab.async false
set_option linter.all false
set_option maxRecDepth 1000000
set_option maxHeartbeats 4000000
/- ev9 -/
namespace G
variable [Wld]
open PySem PySem.Spec PyProof.Rows L2
local macro_rules
  | `(tactic| simp! only) => `(tactic| simp only [ev0, ev1, ev2, ev3, ev4, ev5, ev6, ev7, ev8, ev9, wp_ix_refC, wp_setItE, List.map_cons, List.map_nil, List.replicate, List.cons_append, List.nil_append, List.length_cons, List.length_nil, List.set_cons_succ, List.set_cons_zero, List.getElem?_cons_zero, List.getElem?_cons_succ, Option.map_some, Option.bind_some, List.all_cons, List.all_nil, List.isEmpty_nil, List.isEmpty_cons, eq_self, if_true, if_false, ite_true, ite_false, Option.some.injEq, exists_eq_left', exists_eq_left, Nat.reduceAdd, Nat.reduceLT, Nat.reduceLeDiff, Int.reduceLE, Int.reduceLT, Int.reduceNeg, Int.reducePow, Int.reduceToNat])
  | `(tactic| simp! only [$xs,*]) => `(tactic| simp only [ev0, ev1, ev2, ev3, ev4, ev5, ev6, ev7, ev8, ev9, wp_ix_refC, wp_setItE, List.map_cons, List.map_nil, List.replicate, List.cons_append, List.nil_append, List.length_cons, List.length_nil, List.set_cons_succ, List.set_cons_zero, List.getElem?_cons_zero, List.getElem?_cons_succ, Option.map_some, Option.bind_some, List.all_cons, List.all_nil, List.isEmpty_nil, List.isEmpty_cons, eq_self, if_true, if_false, ite_true, ite_false, Option.some.injEq, exists_eq_left', exists_eq_left, Nat.reduceAdd, Nat.reduceLT, Nat.reduceLeDiff, Int.reduceLE, Int.reduceLT, Int.reduceNeg, Int.reducePow, Int.reduceToNat, $xs,*])
/-! ### the pot -/
theorem deq_nilL {n : Nat} {ds : List D} : deq (n + 1) (.lst ds) (.lst []) = some ds.isEmpty := by
  unfold deq
  cases ds with
  | nil => rfl
  | cons d ds => rfl
theorem wp_ne_nil {e : En} {S : Sto} {Q : R → En → Sto → Prop} {n : Nat} {cs : List Int} (h : S[n]? = some (.lst (cs.map D.int))) : Wp (gEq true (.d (.ref n)) (.new (.lst []))) e S Q ↔ Q (.d (.bl (!cs.isEmpty))) e S := by
  refine wp_some ?_
  simp only [gEq, dat, h, look, deq_nilL (n := 59), datB_lst, datsB_ints, datsB_nil]
  cases cs <;> rfl
def potOf (rest : List O) (cs : List Int) (seed turn : Int) : Sto := .lst (cs.map D.int) :: .lst [.ref 0, .int seed, .int turn] :: rest
def Pot (k : Nat) (rest : List O) (S : Sto) : Prop := ∃ (cs : List Int) (seed turn : Int), S = potOf rest cs seed turn ∧ cs.length ≤ 63 ∧ 0 ≤ seed ∧ seed < 2305843009213693951 ∧ 0 ≤ turn ∧ turn ≤ k
theorem Pot.mono {k j : Nat} {rest : List O} {S : Sto} (h : Pot k rest S) (hj : k ≤ j) : Pot j rest S := let ⟨cs, s, t, h1, h2, h3, h4, h5, h6⟩ := h; ⟨cs, s, t, h1, h2, h3, h4, h5, by omega⟩
theorem small_of {i : Int} (h1 : -(2 ^ 64) < i) (h2 : i < 2 ^ 64) : small i = true := by unfold small; simp only [decide_eq_true h1, decide_eq_true h2]; rfl
theorem dMulR {i j : Int} (h : small j = true) : dMul (.int i) (.int j) = some (.int (i * j)) := dMul_int (by rw [h, Bool.or_true])
theorem dMulL {i j : Int} (h : small i = true) : dMul (.int i) (.int j) = some (.int (i * j)) := dMul_int (by rw [h, Bool.true_or])
theorem begin_ok (ns : List Int) : Fp f__law_begin [.d (.lst (ns.map D.int))] [] fun r S => r = .d (.ref 1) ∧ Pot 0 [] S := by
  have h63 : cutD (ns.map D.int) none (some 63) = (ns.map D.int).take 63 := cutD_to (n := 63)
  unfold f__law_begin
  rw [fp_runF]
  simp! only [e__law_begin_0, e__law_begin_1]
  rw [h63]
  refine wp_forL' (fun pre post e S => ∃ z x y cs, e = [some (.d (.lst (ns.map D.int))), some (.d (.int z)), some (.d (.ref 0)), x, y] ∧ 0 ≤ z ∧ z < 2305843009213693951 ∧ S = [.lst (cs.map D.int)] ∧ cs.length ≤ pre.length) ⟨271828183, none, none, [], rfl, by omega, by omega, rfl, by simp⟩ ?_ ?_
  · rintro pre d post e S hp ⟨z, x, y, cs, rfl, z0, z1, rfl, hc⟩
    have hg : (enumD ((ns.map D.int).take 63))[pre.length]? = some d := by rw [hp]; simp
    obtain ⟨c', hx, rfl⟩ := enum_get hg
    have hm : c' ∈ ns.map D.int := List.mem_of_mem_take (i := 63) (List.mem_of_getElem? hx)
    obtain ⟨c, _, rfl⟩ := List.mem_map.mp hm
    have hk : pre.length < 63 := by
      have h1 := (List.getElem?_eq_some_iff.mp hx).1
      rw [List.length_take] at h1
      omega
    refine ⟨_, rfl, ?_⟩
    simp! only [dMulR (small_of (show -(2 ^ 64) < (1000003 : Int) by omega) (by omega)), dMulL (small_of (show -(2 ^ 64) < (7919 : Int) by omega) (by omega)), dPow_int (show (0 : Int) ≤ 40 ∧ (40 : Int) ≤ 1000 ∧ (10 : Int).natAbs < 1000 by omega), dPow_int (show (0 : Int) ≤ 18 ∧ (18 : Int) ≤ 1000 ∧ (10 : Int).natAbs < 1000 by omega), dMod_int (show (0 : Int) < 10000000000000000000000000000000000000000 by omega), dMod_int (show (0 : Int) < 2305843009213693951 by omega)]
    have u0 := Int.emod_nonneg (z * 1000003 + c % 10000000000000000000000000000000000000000 + 7919 * (pre.length : Int) + 1) (show (2305843009213693951 : Int) ≠ 0 by omega)
    have u1 := Int.emod_lt_of_pos (z * 1000003 + c % 10000000000000000000000000000000000000000 + 7919 * (pre.length : Int) + 1) (show (0 : Int) < 2305843009213693951 by omega)
    generalize (z * 1000003 + c % 10000000000000000000000000000000000000000 + 7919 * (pre.length : Int) + 1) % 2305843009213693951 = t at u0 u1 ⊢
    by_cases hb : (1000000000000000000 : Int) ≤ c
    · rw [if_pos (by simpa using hb)]
      exact ⟨by simp; omega, _, _, _, cs ++ [c], rfl, u0, u1, by simp, by simp; omega⟩
    · rw [if_neg (by simpa using hb)]
      exact ⟨_, _, _, cs, rfl, u0, u1, rfl, by simp; omega⟩
  · rintro e S ⟨z, x, y, cs, rfl, z0, z1, rfl, hc⟩
    simp! only [e__law_begin_2]
    rw [enum_len, List.length_take] at hc
    exact ⟨cs, z, 0, rfl, by omega, z0, z1, by omega, by omega⟩
section
variable {rest : List O} {cs : List Int} {seed turn : Int} {e : En}
theorem ix0 {Q : R → En → Sto → Prop} : Wp (gIx (.d (.ref 1)) (.d (.int 0))) e (potOf rest cs seed turn) Q ↔ Q (.d (.ref 0)) e (potOf rest cs seed turn) := by
  rw [wp_ix_ref (ds := [.ref 0, .int seed, .int turn]) rfl]
  simp! only
theorem ix1 {Q : R → En → Sto → Prop} : Wp (gIx (.d (.ref 1)) (.d (.int 1))) e (potOf rest cs seed turn) Q ↔ Q (.d (.int seed)) e (potOf rest cs seed turn) := by
  rw [wp_ix_ref (ds := [.ref 0, .int seed, .int turn]) rfl]
  simp! only
theorem ix2 {Q : R → En → Sto → Prop} : Wp (gIx (.d (.ref 1)) (.d (.int 2))) e (potOf rest cs seed turn) Q ↔ Q (.d (.int turn)) e (potOf rest cs seed turn) := by
  rw [wp_ix_ref (ds := [.ref 0, .int seed, .int turn]) rfl]
  simp! only
theorem ixc {c : Int} {Q : R → En → Sto → Prop} : Wp (gIx (.d (.ref 0)) (.d (.int 0))) e (potOf rest (c :: cs) seed turn) Q ↔ Q (.d (.int c)) e (potOf rest (c :: cs) seed turn) := by
  rw [wp_ix_ref (ds := .int c :: cs.map D.int) rfl]
  simp! only
theorem nec {Q : R → En → Sto → Prop} : Wp (gEq true (.d (.ref 0)) (.new (.lst []))) e (potOf rest cs seed turn) Q ↔ Q (.d (.bl (!cs.isEmpty))) e (potOf rest cs seed turn) := wp_ne_nil rfl
theorem setIt2 {v : Int} {F : Fl → En → Sto → Prop} : Wp (setIt (.d (.ref 1)) (.d (.int 2)) (.int v)) e (potOf rest cs seed turn) F ↔ F .nx e (potOf rest cs seed v) := wp_setIt (ds := [.ref 0, .int seed, .int turn]) (j := 2) (o := .d (.ref 1)) (k := 2) rfl rfl rfl
theorem setItc {c v : Int} {F : Fl → En → Sto → Prop} : Wp (setIt (.d (.ref 0)) (.d (.int 0)) (.int v)) e (potOf rest (c :: cs) seed turn) F ↔ F .nx e (potOf rest (v :: cs) seed turn) := wp_setIt (o := .d (.ref 0)) (k := 0) (j := 0) (ds := .int c :: cs.map D.int) rfl rfl (by unfold ixN; rw [if_pos (by decide), if_pos (by simp)]; rfl)
theorem popc {c : Int} {Q : R → En → Sto → Prop} : Wp (gPop (.d (.ref 0)) [.d (.int 0)]) e (potOf rest (c :: cs) seed turn) Q ↔ Q (.d (.int c)) e (potOf rest cs seed turn) := wp_pop0 (ds := cs.map D.int) rfl rfl
theorem tyc : isTy "list" (.d (.ref 0)) e (potOf rest cs seed turn) = true := isTy_list (ds := cs.map D.int) rfl
end
theorem pick_ok {k : Nat} {rest : List O} {S : Sto} {m : Int} (h1 : 1 ≤ m) (h2 : m < 1073741824) (hk : k < 1000000) (hS : Pot k rest S) : Fp f__law_pick [.d (.ref 1), .d (.int m)] S fun r S' => ∃ j, r = .d (.int j) ∧ 0 ≤ j ∧ j < m ∧ Pot (k + 1) rest S' := by
  obtain ⟨cs, seed, turn, rfl, hl, s0, s1, t0, t1⟩ := hS
  have hm : (0 : Int) < m := by omega
  unfold f__law_pick
  rw [fp_runF]
  simp! only [e__law_pick_0]
  refine wp_whileL (fun n e S => e = [some (.d (.ref 1)), some (.d (.int m)), none, none, none] ∧ ∃ cs, n = cs.length ∧ S = potOf rest cs seed turn ∧ cs.length ≤ 63) (n := cs.length) (by omega) ⟨rfl, cs, rfl, rfl, hl⟩ ?_
  rintro n e S ⟨rfl, cs, rfl, rfl, hl⟩
  cases cs with
  | nil =>
    simp only [ev0, ev1, ev2, ev3, ev4, ev5, ev6, ev7, ev8, ev9, List.map_cons, List.map_nil, List.replicate, List.cons_append, List.nil_append, List.length_cons, List.length_nil, List.set_cons_succ, List.set_cons_zero, List.getElem?_cons_zero, List.getElem?_cons_succ, Option.map_some, Option.bind_some, List.all_cons, List.all_nil, List.isEmpty_nil, List.isEmpty_cons, eq_self, if_true, if_false, ite_true, ite_false, Option.some.injEq, exists_eq_left', exists_eq_left, Nat.reduceAdd, Nat.reduceLT, Nat.reduceLeDiff, Int.reduceLE, Int.reduceLT, Int.reduceNeg, Int.reducePow, Int.reduceToNat, ix0, nec, ix1, e__law_pick_1, e__law_pick_2, e__law_pick_3, e__law_pick_4, ix2, setIt2]
    have a1 : small 60013 = true := by rfl
    have a2 : small (turn + 1) = true := small_of (by omega) (by omega)
    have a3 : small 101 = true := by rfl
    simp only [ev0, ev1, ev2, ev3, ev4, ev5, ev6, ev7, ev8, ev9, List.map_cons, List.map_nil, List.replicate, List.cons_append, List.nil_append, List.length_cons, List.length_nil, List.set_cons_succ, List.set_cons_zero, List.getElem?_cons_zero, List.getElem?_cons_succ, Option.map_some, Option.bind_some, List.all_cons, List.all_nil, List.isEmpty_nil, List.isEmpty_cons, eq_self, if_true, if_false, ite_true, ite_false, Option.some.injEq, exists_eq_left', exists_eq_left, Nat.reduceAdd, Nat.reduceLT, Nat.reduceLeDiff, Int.reduceLE, Int.reduceLT, Int.reduceNeg, Int.reducePow, Int.reduceToNat, ix0, nec, ix1, ix2, e__law_pick_5, dMulL a1, dMulR a2, dMulL a3, dMod_int (show (0 : Int) < 2305843009213693921 by omega)]
    generalize hs : (seed + 60013 * (turn + 1) * (turn + 1) * (turn + 1) + 101 * (turn + 1)) % 2305843009213693921 = t
    have u0 : 0 ≤ t := by rw [← hs]; exact Int.emod_nonneg _ (by omega)
    have u1 : t < 2305843009213693921 := by rw [← hs]; exact Int.emod_lt_of_pos _ (by omega)
    have a4 : small t = true := small_of (by omega) (by omega)
    simp only [ev0, ev1, ev2, ev3, ev4, ev5, ev6, ev7, ev8, ev9, List.map_cons, List.map_nil, List.replicate, List.cons_append, List.nil_append, List.length_cons, List.length_nil, List.set_cons_succ, List.set_cons_zero, List.getElem?_cons_zero, List.getElem?_cons_succ, Option.map_some, Option.bind_some, List.all_cons, List.all_nil, List.isEmpty_nil, List.isEmpty_cons, eq_self, if_true, if_false, ite_true, ite_false, Option.some.injEq, exists_eq_left', exists_eq_left, Nat.reduceAdd, Nat.reduceLT, Nat.reduceLeDiff, Int.reduceLE, Int.reduceLT, Int.reduceNeg, Int.reducePow, Int.reduceToNat, dMulL a4, dMod_int (show (0 : Int) < 2305843009213693907 by omega), dDiv_int (show (0 : Int) < 1009 ∧ (1009 : Int) < 1073741824 by omega), dDiv_int (show (0 : Int) < 31 ∧ (31 : Int) < 1073741824 by omega), dMod_int hm]
    exact ⟨_, rfl, Int.emod_nonneg _ (by omega), Int.emod_lt_of_pos _ hm, [], seed, turn + 1, rfl, by simp, s0, s1, by omega, by omega⟩
  | cons c cs =>
    simp only [ev0, ev1, ev2, ev3, ev4, ev5, ev6, ev7, ev8, ev9, List.map_cons, List.map_nil, List.replicate, List.cons_append, List.nil_append, List.length_cons, List.length_nil, List.set_cons_succ, List.set_cons_zero, List.getElem?_cons_zero, List.getElem?_cons_succ, Option.map_some, Option.bind_some, List.all_cons, List.all_nil, List.isEmpty_nil, List.isEmpty_cons, eq_self, if_true, if_false, ite_true, ite_false, Option.some.injEq, exists_eq_left', exists_eq_left, Nat.reduceAdd, Nat.reduceLT, Nat.reduceLeDiff, Int.reduceLE, Int.reduceLT, Int.reduceNeg, Int.reducePow, Int.reduceToNat, ix0, nec, ix1, ixc, tyc, popc, e__law_pick_1, dMod_int hm, dDiv_int (⟨hm, h2⟩ : 0 < m ∧ m < 1073741824), setItc]
    by_cases hc : (c == 0) = true
    · rw [if_pos hc]
      exact ⟨cs.length, rfl, rfl, _, rfl, rfl, by simp at hl; omega⟩
    · rw [if_neg hc]
      exact ⟨_, rfl, Int.emod_nonneg _ (by omega), Int.emod_lt_of_pos _ hm, _, seed, turn, rfl, by simpa using hl, s0, s1, t0, by omega⟩
theorem atD_in {ds : List D} {k : Int} (h0 : 0 ≤ k) (h1 : k < ds.length) : ∃ d, atD ds k = some d ∧ d ∈ ds := by
  obtain ⟨n, rfl⟩ := Int.eq_ofNat_of_zero_le h0
  rw [atD_ofNat]
  have h : n < ds.length := by omega
  exact ⟨ds[n], List.getElem?_eq_getElem h, List.getElem_mem h⟩
theorem of_brw {k : Nat} {rest : List O} {S : Sto} {ds : List D} (h1 : ds ≠ []) (h2 : ds.length < 1073741824) (hk : k < 1000000) (hS : Pot k rest S) : Fp f__law_of [.d (.ref 1), .brw (.lst ds)] S fun r S' => ∃ d, r = .d d ∧ d ∈ ds ∧ Pot (k + 1) rest S' := by
  have hl : 0 < ds.length := List.length_pos_iff.mpr h1
  unfold f__law_of
  rw [fp_runF]
  simp! only [b__law_of]
  refine (pick_ok (by omega) (by omega) hk hS).mono ?_
  rintro r S1 ⟨k, rfl, k0, k1, hS1⟩
  obtain ⟨d, hd, hm⟩ := atD_in k0 k1
  simp! only
  exact ⟨d, hd, _, rfl, hm, hS1⟩
end G

set_option Elab.async false
set_option linter.all false
set_option maxRecDepth 1000000
set_option maxHeartbeats 4000000
/- ev9 -/
namespace G
variable [Wld]
open PySem PySem.Spec PyProof.Rows L2
local macro_rules
  | `(tactic| simp! only) => `(tactic| simp only [ev0, ev1, ev2, ev3, ev4, ev5, ev6, ev7, ev8, ev9, wp_ix_refC, wp_setItE, List.map_cons, List.map_nil, List.replicate, List.cons_append, List.nil_append, List.length_cons, List.length_nil, List.set_cons_succ, List.set_cons_zero, List.getElem?_cons_zero, List.getElem?_cons_succ, Option.map_some, Option.bind_some, List.all_cons, List.all_nil, List.isEmpty_nil, List.isEmpty_cons, eq_self, if_true, if_false, ite_true, ite_false, Option.some.injEq, exists_eq_left', exists_eq_left, Nat.reduceAdd, Nat.reduceLT, Nat.reduceLeDiff, Int.reduceLE, Int.reduceLT, Int.reduceNeg, Int.reducePow, Int.reduceToNat])
  | `(tactic| simp! only [$xs,*]) => `(tactic| simp only [ev0, ev1, ev2, ev3, ev4, ev5, ev6, ev7, ev8, ev9, wp_ix_refC, wp_setItE, List.map_cons, List.map_nil, List.replicate, List.cons_append, List.nil_append, List.length_cons, List.length_nil, List.set_cons_succ, List.set_cons_zero, List.getElem?_cons_zero, List.getElem?_cons_succ, Option.map_some, Option.bind_some, List.all_cons, List.all_nil, List.isEmpty_nil, List.isEmpty_cons, eq_self, if_true, if_false, ite_true, ite_false, Option.some.injEq, exists_eq_left', exists_eq_left, Nat.reduceAdd, Nat.reduceLT, Nat.reduceLeDiff, Int.reduceLE, Int.reduceLT, Int.reduceNeg, Int.reducePow, Int.reduceToNat, $xs,*])
/-! ### letters, things -/
abbrev LT (d : D) : Prop := Dt 1000 20 3000 10 d
abbrev TH (k : Nat) (d : D) : Prop := Dt (10 ^ 30) 20 (k + 200) (k + 2) d
def shw (d : D) : Str := (shownD d).getD ""
theorem LT.shw {d : D} (h : LT d) : shownD d = some (shw d) ∧ (G.shw d).length ≤ 200000 := by
  obtain ⟨t, h1, h2, _⟩ := h.shown (by decide) (by omega) (by omega)
  unfold G.shw
  rw [h1]
  exact ⟨rfl, by show t.length ≤ _; omega⟩
theorem TH.shw {k : Nat} {d : D} (hk : k ≤ 40) (h : TH k d) : shownD d = some (shw d) ∧ (G.shw d).length ≤ 200000 := by
  obtain ⟨t, h1, h2, _⟩ := h.shown (by decide) (by omega) (by omega)
  unfold G.shw
  rw [h1]
  exact ⟨rfl, by show t.length ≤ _; omega⟩
theorem letter_ok {k : Nat} {rest : List O} {S : Sto} (hk : k + 2 < 1000000) (hS : Pot k rest S) : Fp f__law_letter [.d (.ref 1)] S fun r S' => ∃ d, r = .d d ∧ LT d ∧ Pot (k + 2) rest S' := by
  unfold f__law_letter
  rw [fp_runF]
  simp! only [e__law_letter_0, e__law_letter_1]
  refine (pick_ok (by omega) (by omega) (by omega) hS).mono ?_
  rintro r S1 ⟨j, rfl, j0, j1, hS1⟩
  simp! only
  refine (of_brw (by simp) (by simp) (by omega) hS1).mono ?_
  rintro r S2 ⟨d, rfl, hd, hS2⟩
  simp! only
  refine ⟨d, rfl, ?_, hS2⟩
  simp only [List.mem_cons, List.not_mem_nil, or_false] at hd
  rcases hd with rfl | rfl | rfl | rfl | rfl | rfl
  · exact ⟨by decide +kernel, by decide +kernel, by decide +kernel⟩
  · exact ⟨by decide +kernel, by decide +kernel, by decide +kernel⟩
  · exact ⟨by decide +kernel, by decide +kernel, by decide +kernel⟩
  · exact ⟨by decide +kernel, by decide +kernel, by decide +kernel⟩
  · exact ⟨by decide +kernel, by decide +kernel, by decide +kernel⟩
  · refine dt_tup.mpr ⟨by simp, ?_, ?_⟩
    · intro x hx
      simp only [List.mem_cons, List.not_mem_nil, or_false] at hx
      rcases hx with rfl | rfl | rfl | rfl
      · exact dt_str.mpr ⟨asc_lit (by decide +kernel), by decide +kernel⟩
      · exact dt_int.mpr ⟨by omega, by omega⟩
      · exact dt_int.mpr ⟨by omega, by omega⟩
      · exact dt_int.mpr ⟨by omega, by omega⟩
    · simp only [wts, wt]
      have : (Str.ofString "have").length = 4 := by decide +kernel
      omega
theorem th_int {k : Nat} {i : Int} (h : i.natAbs ≤ 10 ^ 30) : TH k (.int i) := dt_int.mpr ⟨h, by omega⟩
theorem th_tup {k : Nat} {d : D} (h : TH k d) : TH (k + 1) (.tup [d]) := by
  refine dt_tup.mpr ⟨by simp, fun x hx => ?_, ?_⟩
  · cases List.mem_singleton.mp hx
    exact h.mono (Nat.le_refl _) (Nat.le_refl _) (by omega) (by omega)
  · have := h.w
    simp only [wts]
    omega
theorem th_lst {k : Nat} {d : D} (h : TH k d) : TH (k + 1) (.lst [d]) := by
  refine dt_lst.mpr ⟨by simp, fun x hx => ?_, ?_⟩
  · cases List.mem_singleton.mp hx
    exact h.mono (Nat.le_refl _) (Nat.le_refl _) (by omega) (by omega)
  · have := h.w
    simp only [wts]
    omega
theorem thing_ok {k m : Nat} {rest : List O} {S : Sto} (hk : k + 40 < 1000000) (hm : m ≤ 100) (hS : Pot k rest S) : Fp f__law_thing [.d (.ref 1), .d (.int (m : Int))] S fun r S' => ∃ d, r = .d d ∧ TH 19 d ∧ Pot (k + 30) rest S' := by
  unfold f__law_thing
  rw [fp_runF]
  simp! only [e__law_thing_0]
  refine (pick_ok (by omega) (by omega) (by omega) hS).mono ?_
  rintro r S1 ⟨way, rfl, w0, w1, hS1⟩
  simp! only [e__law_thing_1]
  have base : Wp t__law_thing_2 [some (.d (.ref 1)), some (.d (.int (m : Int))), some (.d (.int way)), none, none] S1 (flQ fun r S' => ∃ d, r = .d d ∧ TH 19 d ∧ Pot (k + 30) rest S') := by
    simp! only [e__law_thing_2, dPow_int (show (0 : Int) ≤ 30 ∧ (30 : Int) ≤ 1000 ∧ (10 : Int).natAbs < 1000 by omega)]
    refine (of_brw (by simp) (by simp) (by omega) hS1).mono ?_
    rintro r S2 ⟨d, rfl, hd, hS2⟩
    have hT : TH 0 d := by
      simp only [List.mem_cons, List.not_mem_nil, or_false] at hd
      rcases hd with rfl | rfl | rfl | rfl | rfl | rfl | rfl | rfl | rfl | rfl | rfl | rfl | rfl
      · exact th_int (by omega)
      · exact th_int (by omega)
      · exact th_int (by omega)
      · exact dt_bl
      · exact dt_bl
      · exact dt_non
      · exact ⟨by decide +kernel, by decide +kernel, by decide +kernel⟩
      · exact ⟨by decide +kernel, by decide +kernel, by decide +kernel⟩
      · exact ⟨by decide +kernel, by decide +kernel, by decide +kernel⟩
      · exact ⟨by decide +kernel, by decide +kernel, by decide +kernel⟩
      · exact ⟨by decide +kernel, by decide +kernel, by decide +kernel⟩
      · exact ⟨by decide +kernel, by decide +kernel, by decide +kernel⟩
      · exact th_int (by decide)
    clear hd
    simp! only [e__law_thing_3]
    refine (of_brw (by simp) (by simp) (by omega) hS2).mono ?_
    rintro r S3 ⟨n, rfl, hn, hS3⟩
    obtain ⟨n, rfl, n0, n1⟩ : ∃ i : Nat, n = .int (i : Int) ∧ 0 ≤ i ∧ i ≤ 18 := by
      simp only [List.mem_cons, List.not_mem_nil, or_false] at hn
      rcases hn with rfl | rfl | rfl | rfl | rfl
      · exact ⟨0, rfl, by omega, by omega⟩
      · exact ⟨0, rfl, by omega, by omega⟩
      · exact ⟨0, rfl, by omega, by omega⟩
      · exact ⟨1, rfl, by omega, by omega⟩
      · exact ⟨18, rfl, by omega, by omega⟩
    obtain ⟨q, hq, hq18⟩ : ∃ q : Nat, (n : Int) * (if (way == 7) = true then 1 else 0) = (q : Int) ∧ q ≤ 18 := by
      split
      · exact ⟨n, by omega, n1⟩
      · exact ⟨0, by omega, by omega⟩
    simp! only [dMulL (small_of (show -(2 ^ 64) < (n : Int) by omega) (by omega)), hq]
    refine ⟨by omega, ?_⟩
    have hql : (rngD 0 ((q : Nat) : Int).toNat).length = q := by simp [rngD]
    refine wp_forL' (fun pre post e S => ∃ d y, e = [some (.d (.ref 1)), some (.d (.int (m : Int))), some (.d (.int way)), some (.d d), y] ∧ TH pre.length d ∧ Pot (k + 3 + pre.length) rest S) ⟨d, none, rfl, hT, hS3⟩ ?_ ?_
    · rintro pre a post e S hp ⟨d, y, rfl, hT, hS⟩
      have hl := congrArg List.length hp
      rw [hql, List.length_append, List.length_cons] at hl
      refine ⟨_, rfl, ?_⟩
      simp! only
      refine (of_brw (by simp) (by simp) (by omega) hS).mono ?_
      rintro r S4 ⟨x, rfl, hx, hS4⟩
      simp! only
      refine ⟨x, _, rfl, ?_, hS4.mono (by simp; omega)⟩
      simp only [List.mem_cons, List.not_mem_nil, or_false] at hx
      rw [List.length_append, List.length_singleton]
      rcases hx with rfl | rfl
      · exact th_tup hT
      · exact th_lst hT
    · rintro e S ⟨d, y, rfl, hT, hS⟩
      rw [hql] at hT hS
      simp! only [e__law_thing_4]
      exact ⟨d, rfl, hT.mono (Nat.le_refl _) (Nat.le_refl _) (by omega) (by omega), hS.mono (by omega)⟩
  split
  · split
    · rename_i h1 h2
      have hm0 : 0 < m := by simpa using h2
      refine (pick_ok (by omega) (by omega) (by omega) hS1).mono ?_
      rintro r S2 ⟨j, rfl, j0, j1, hS2⟩
      simp! only
      refine (of_brw (by simp) (by simp) (by omega) hS2).mono ?_
      rintro r S3 ⟨d, rfl, hd, hS3⟩
      simp! only
      refine ⟨d, rfl, ?_, hS3.mono (by omega)⟩
      simp only [List.mem_cons, List.not_mem_nil, or_false] at hd
      rcases hd with rfl | rfl | rfl <;> exact th_int (by omega)
    · exact base
  · exact base
end G

set_option Elab.async false
set_option linter.all false
set_option maxRecDepth 1000000
set_option maxHeartbeats 4000000
/- ev9 -/
/- evY -/
namespace G
variable [Wld]
open PySem PySem.Spec PyProof.Rows L2
local macro_rules
  | `(tactic| simp! only) => `(tactic| simp only [wp_ySeq, ysQ_nx, ysQ_rt, ysQ_x, wp_yl, wp_yIf, wp_yRet, wp_ySet, wp_yDrop, wp_yPar2, wp_yRaise, wp_bnY, wp_mBinY, wp_mIfY, wp_mNilY, wp_mConsY, wp_mTupY, wp_mCallDY, wp_disp, byQ_l, byQ_r, cyQ_l, cyQ_r, wp_mCallY, flY_rt, flY_nx, flY_x, ev0, ev1, ev2, ev3, ev4, ev5, ev6, ev7, ev8, ev9, wp_ix_refC, wp_setItE, List.map_cons, List.map_nil, List.replicate, List.cons_append, List.nil_append, List.length_cons, List.length_nil, List.set_cons_succ, List.set_cons_zero, List.getElem?_cons_zero, List.getElem?_cons_succ, Option.map_some, Option.bind_some, List.all_cons, List.all_nil, List.isEmpty_nil, List.isEmpty_cons, eq_self, if_true, if_false, ite_true, ite_false, Option.some.injEq, exists_eq_left', exists_eq_left, Nat.reduceAdd, Nat.reduceLT, Nat.reduceLeDiff, Int.reduceLE, Int.reduceLT, Int.reduceNeg, Int.reducePow, Int.reduceToNat])
  | `(tactic| simp! only [$xs,*]) => `(tactic| simp only [wp_ySeq, ysQ_nx, ysQ_rt, ysQ_x, wp_yl, wp_yIf, wp_yRet, wp_ySet, wp_yDrop, wp_yPar2, wp_yRaise, wp_bnY, wp_mBinY, wp_mIfY, wp_mNilY, wp_mConsY, wp_mTupY, wp_mCallDY, wp_disp, byQ_l, byQ_r, cyQ_l, cyQ_r, wp_mCallY, flY_rt, flY_nx, flY_x, ev0, ev1, ev2, ev3, ev4, ev5, ev6, ev7, ev8, ev9, wp_ix_refC, wp_setItE, List.map_cons, List.map_nil, List.replicate, List.cons_append, List.nil_append, List.length_cons, List.length_nil, List.set_cons_succ, List.set_cons_zero, List.getElem?_cons_zero, List.getElem?_cons_succ, Option.map_some, Option.bind_some, List.all_cons, List.all_nil, List.isEmpty_nil, List.isEmpty_cons, eq_self, if_true, if_false, ite_true, ite_false, Option.some.injEq, exists_eq_left', exists_eq_left, Nat.reduceAdd, Nat.reduceLT, Nat.reduceLeDiff, Int.reduceLE, Int.reduceLT, Int.reduceNeg, Int.reducePow, Int.reduceToNat, $xs,*])
/-! ### a road -/
def isI : D → Bool
  | .int _ => true
  | _ => false
theorem lv_kd {N L : Nat} {d : D} (h : lvB N L d = true) : ∃ k, (∀ e S, kd (.d d) e S = some k) ∧ isK k .int = (isI d || isK k .bool) ∧ (isI d = true → isK k .bool = false) := by
  cases d with
  | non => exact ⟨.non, fun _ _ => rfl, rfl, by decide⟩
  | bl b => exact ⟨.bl, fun _ _ => rfl, rfl, by simp [isI]⟩
  | int i => exact ⟨.int, fun _ _ => rfl, rfl, by simp [isK]⟩
  | str x => exact ⟨.str, fun _ _ => rfl, rfl, by simp [isI]⟩
  | tup ds => exact ⟨.tup, fun _ _ => rfl, rfl, by simp [isI]⟩
  | lst ds => exact ⟨.lst, fun _ _ => rfl, rfl, by simp [isI]⟩
  | dic ks ds => exact ⟨.dct, fun _ _ => rfl, rfl, by simp [isI]⟩
  | ref n => cases h
  | fn a => cases h
  | exc C ns ds => cases h
theorem whole_ok {N L : Nat} {d : D} (h : lvB N L d = true) {S : Sto} : Fp f_is_whole [.d d] S fun r S' => r = .d (.bl (isI d)) ∧ S' = S := by
  obtain ⟨k, hk, h1, h2⟩ := lv_kd h
  unfold f_is_whole
  rw [fp_runF]
  simp! only [b_is_whole, hk]
  rw [h1]
  cases hi : isI d
  · cases hb : isK k .bool <;> rfl
  · rw [h2 hi]
    rfl
/-- the letter's number, if there is one -/
def ixOf (n : Nat) : D → Option Nat
  | .int i => if 0 ≤ i ∧ i < n then some i.toNat else none
  | _ => none
structure RdS (S : Sto) (n m : Nat) (rm : Int) (xs : List D) : Prop where
  o : S[n]? = some (.ins 0 ["room", "under_way"] [.int rm, .ref m])
  l : S[m]? = some (.lst xs)
  ne : n ≠ m
def exL (A : FA) (d : D) : Ex := ⟨A.NoLetter, ["i"], [d]⟩
theorem way_ok {S : Sto} {n m : Nat} {rm : Int} {xs : List D} (h : RdS S n m rm xs) {es : En} {Q : R → En → Sto → Prop} : Wp (mFld 0 "under_way" (mVar 0)) (some (.d (.ref n)) :: es) S Q ↔ Q (.d (.ref m)) (some (.d (.ref n)) :: es) S := by
  rw [wp_fld]
  simp! only
  constructor
  · rintro ⟨k, hk, ns, ds, h1, d, hd, q⟩
    cases hk
    rw [h.o] at h1
    cases h1
    have : d = .ref m := by
      have e : ([Str.ofString "room", Str.ofString "under_way"].zip [D.int rm, D.ref m]).lookup (Str.ofString "under_way") = some (D.ref m) := rfl
      exact Option.some.inj (hd.symm.trans e)
    rw [this] at q
    exact q
  · intro q
    exact ⟨n, rfl, _, _, h.o, _, rfl, q⟩
theorem room_ok {S : Sto} {n m : Nat} {rm : Int} {xs : List D} (h : RdS S n m rm xs) {es : En} {Q : R → En → Sto → Prop} : Wp (mFld 0 "room" (mVar 0)) (some (.d (.ref n)) :: es) S Q ↔ Q (.d (.int rm)) (some (.d (.ref n)) :: es) S := by
  rw [wp_fld]
  simp! only
  constructor
  · rintro ⟨k, hk, ns, ds, h1, d, hd, q⟩
    cases hk
    rw [h.o] at h1
    cases h1
    have : d = .int rm := by
      have e : ([Str.ofString "room", Str.ofString "under_way"].zip [D.int rm, D.ref m]).lookup (Str.ofString "room") = some (D.int rm) := rfl
      exact Option.some.inj (hd.symm.trans e)
    rw [this] at q
    exact q
  · intro q
    exact ⟨n, rfl, _, _, h.o, _, rfl, q⟩
theorem wp_mChain {g g' : R → R → M R} {ma mb mc : M R} {e : En} {S : Sto} {Q : R → En → Sto → Prop} : Wp (mChain g g' ma mb mc) e S Q ↔ Wp ma e S fun x e1 S1 => Wp mb e1 S1 fun y e2 S2 => Wp (g x y) e2 S2 fun r e3 S3 => ∃ b, r = .d (.bl b) ∧ (if b = true then Wp mc e3 S3 fun w e4 S4 => Wp (g' y w) e4 S4 Q else Q (.d (.bl false)) e3 S3) := by
  unfold mChain
  have h : ∀ (y : R) (r : R) e3 S3, (Wp (asB r) e3 S3 fun k e3 S3 => Wp (if k = true then bnd mc fun w => g' y w else pur (.d (.bl false))) e3 S3 Q) = ∃ b, r = .d (.bl b) ∧ (if b = true then Wp mc e3 S3 fun w e4 S4 => Wp (g' y w) e4 S4 Q else Q (.d (.bl false)) e3 S3) := by
    intro y r e3 S3
    rw [wp_asB]
    refine propext (exists_congr fun b => and_congr_right fun _ => ?_)
    cases b
    · exact wp_pur
    · exact wp_bnd
  simp only [wp_bnd, h]
theorem set_self {S : Sto} {m : Nat} {o : O} (h : S[m]? = some o) : S.set m o = S := by
  apply List.ext_getElem?
  intro j
  by_cases hj : m = j
  · subst hj; rw [List.getElem?_set_self (List.getElem?_eq_some_iff.mp h).1, h]
  · rw [List.getElem?_set_ne hj]
theorem RdS.set {S : Sto} {n m : Nat} {rm : Int} {xs : List D} (h : RdS S n m rm xs) (ys : List D) : RdS (S.set m (.lst ys)) n m rm ys :=
  ⟨by rw [List.getElem?_set_ne h.ne.symm]; exact h.o, by rw [List.getElem?_set_self (List.getElem?_eq_some_iff.mp h.l).1], h.ne⟩
theorem ix_not {d : D} {n : Nat} (h : isI d = false) : ixOf n d = none := by
  cases d <;> first | rfl | cases h
theorem look_ok {A : FA} {N L : Nat} {d : D} {S : Sto} {n m : Nat} {rm : Int} {xs : List D} (h : lvB N L d = true) (hS : RdS S n m rm xs) : Yp (f_Road_look_letter A) [.d (.ref n), .d d] S fun r S' => S' = S ∧ r = (if (ixOf xs.length d).isSome then .inl (.d .non) else .inr (exL A d)) := by
  have hl := hS.l
  generalize ho : ixOf xs.length d = o
  unfold f_Road_look_letter
  refine yp_runY ?_
  simp! only [b_Road_look_letter, wp_mChain, way_ok hS]
  refine (whole_ok h).mono ?_
  rintro r S1 ⟨rfl, rfl⟩
  refine ⟨_, rfl, ?_⟩
  cases hi : isI d with
  | false =>
    rw [if_pos (show (!false) = true from rfl), ← ho, ix_not hi]
    exact ⟨rfl, rfl⟩
  | true =>
    obtain ⟨i, rfl⟩ : ∃ i, d = .int i := by cases d <;> first | exact ⟨_, rfl⟩ | cases hi
    rw [if_neg (by decide)]
    simp! only [way_ok hS, wp_len_refC, hl]
    by_cases h0 : 0 ≤ i
    · rw [decide_eq_true h0, if_pos rfl]
      by_cases h1 : i < (xs.length : Int)
      · have e : ixOf xs.length (.int i) = some i.toNat := by unfold ixOf; exact if_pos ⟨h0, h1⟩
        rw [decide_eq_true h1, if_neg (by decide), ← ho, e]
        first | rfl | exact ⟨rfl, rfl⟩
      · have e : ixOf xs.length (.int i) = none := by unfold ixOf; exact if_neg fun z => h1 z.2
        rw [decide_eq_false h1, if_pos (show (!false) = true from rfl), ← ho, e]
        first | rfl | exact ⟨rfl, rfl⟩
    · have e : ixOf xs.length (.int i) = none := by unfold ixOf; exact if_neg fun z => h0 z.1
      rw [decide_eq_false h0, if_neg (by decide), ← ho, e]
      first | rfl | exact ⟨rfl, rfl⟩
theorem put_ok {d : D} {S : Sto} {n m : Nat} {rm : Int} {xs : List D} (hS : RdS S n m rm xs) (hx : xs.length < 1000) : Fp f_Road_put [.d (.ref n), .d d] S fun r S' => (r = .d (.bl (decide ((xs.length : Int) < rm))) ∧ S' = S.set m (.lst (if (xs.length : Int) < rm then xs ++ [d] else xs))) := by
  have hl := hS.l
  unfold f_Road_put
  rw [fp_runF]
  simp! only [e_Road_put_0, way_ok hS, room_ok hS, hl]
  by_cases h : (xs.length : Int) < rm
  · rw [if_neg (by simp; omega)]
    have hty : ∀ e : En, isTy "list" (.d (.ref m)) e S = true := fun e => isTy_list (ds := xs) (by simp [look, hl])
    simp! only [e_Road_put_1, way_ok hS, hty, hl]
    rw [decide_eq_true h, if_pos h]
    refine ⟨by omega, ?_⟩
    simp! only [e_Road_put_2]
    try exact ⟨rfl, rfl⟩
  · rw [if_pos (by simp; omega), if_neg h, decide_eq_false h, set_self hl]
    exact ⟨rfl, rfl⟩
theorem letters_ok {S : Sto} {n m : Nat} {rm : Int} {xs : List D} (hS : RdS S n m rm xs) (hx : xs.length < 1000) : Fp f_Road_letters [.d (.ref n)] S fun r S' => r = .d (.tup xs) ∧ S' = S := by
  have hl := hS.l
  unfold f_Road_letters
  rw [fp_runF]
  simp! only [b_Road_letters, way_ok hS, hl]
  try exact ⟨rfl, rfl⟩
theorem meth_look {A : FA} {N L : Nat} {d : D} {S : Sto} {n m : Nat} {rm : Int} {xs : List D} {es : En} {F : R ⊕ Ex → En → Sto → Prop} (h : lvB N L d = true) (hS : RdS S n m rm xs)
    (hs : ∀ j, ixOf xs.length d = some j → F (.inl (.d .non)) (some (.d (.ref n)) :: some (.d d) :: es) S) (hf : ixOf xs.length d = none → F (.inr (exL A d)) (some (.d (.ref n)) :: some (.d d) :: es) S) :
    Wp (mMethY 0 "look_letter" 2 [] (f_Road_look_letter A) (mVar 0) (mCons (mVar 1) mNil)) (some (.d (.ref n)) :: some (.d d) :: es) S F := by
  rw [wp_methY]
  simp! only
  refine ⟨n, rfl, _, _, hS.o, by decide +kernel, ?_⟩
  refine (look_ok (A := A) h hS).mono ?_
  rintro r S' ⟨rfl, rfl⟩
  cases hj : ixOf xs.length d with
  | none => exact hf hj
  | some j => exact hs j hj
theorem ix_some {d : D} {n j : Nat} (h : ixOf n d = some j) : d = .int (j : Int) ∧ j < n := by
  unfold ixOf at h
  split at h
  · split at h
    · rename_i i hi
      cases h
      exact ⟨by rw [Int.toNat_of_nonneg hi.1], by omega⟩
    · cases h
  · cases h
/-- what is told, and the row behind it -/
def actB (A : FA) (d : D) (xs : List D) : Rt ⊕ Ex := match ixOf xs.length d with
  | none => .inr (exL A d)
  | some j => .inl (.d (xs[j]?.getD .non))
def actL (A : FA) (d : D) (xs : List D) : Rt ⊕ Ex := match ixOf xs.length d with
  | none => .inr (exL A d)
  | some _ => .inl (.d .non)
def rowB (d : D) (xs : List D) : List D := match ixOf xs.length d with
  | none => xs
  | some j => xs.eraseIdx j
def actD (A : FA) (rm : Int) (d : D) (xs : List D) : Rt ⊕ Ex := match ixOf xs.length d with
  | none => .inr (exL A d)
  | some _ => if (xs.length : Int) < rm then .inl (.d .non) else .inr ⟨A.Full, [], []⟩
def rowD (rm : Int) (d : D) (xs : List D) : List D := match ixOf xs.length d with
  | none => xs
  | some j => if (xs.length : Int) < rm then xs ++ [xs[j]?.getD .non] else xs
theorem wp_popJ {xs : List D} {j m : Nat} {e : En} {S : Sto} {Q : R → En → Sto → Prop} (hl : S[m]? = some (.lst xs)) (hj : j < xs.length) (hx : xs.length < 1000) (q : Q (.d (xs[j]?.getD .non)) e (S.set m (.lst (xs.eraseIdx j)))) : Wp (gPop (.d (.ref m)) [.d (.int (j : Int))]) e S Q := by
  rw [wp_popI]
  refine ⟨xs, by simp [look, hl], rfl, by omega, by omega, j, ?_, xs[j], List.getElem?_eq_getElem hj, ?_⟩
  · have h1 : ¬ (j : Int) < 0 := by omega
    have h2 : (decide ((0 : Int) ≤ (j : Int)) && decide ((j : Int) < (xs.length : Int))) = true := by simp; omega
    unfold seqIndex?
    rw [if_neg h1]
    dsimp only
    rw [if_pos h2]
    rfl
  · rw [List.getElem?_eq_getElem hj] at q
    exact q
theorem bring_ok {A : FA} {N L : Nat} {d : D} {S : Sto} {n m : Nat} {rm : Int} {xs : List D} (h : lvB N L d = true) (hS : RdS S n m rm xs) (hx : xs.length < 1000) : Yp (f_Road_bring A) [.d (.ref n), .d d] S fun r S' => r = actB A d xs ∧ S' = S.set m (.lst (rowB d xs)) := by
  have hl := hS.l
  generalize ha : actB A d xs = ac
  generalize hr : rowB d xs = rw
  unfold f_Road_bring
  refine yp_runY ?_
  simp! only [e_Road_bring_0]
  refine meth_look h hS (fun j hj => ?_) (fun hj => ?_)
  · obtain ⟨rfl, hlt⟩ := ix_some hj
    have hty : ∀ e : En, isTy "list" (.d (.ref m)) e S = true := fun e => isTy_list (ds := xs) (by simp [look, hl])
    simp! only [e_Road_bring_1, way_ok hS, hty, hl]
    refine wp_popJ hl hlt hx ?_
    simp! only
    rw [← ha, ← hr]
    unfold actB rowB
    rw [hj]
    exact ⟨rfl, rfl⟩
  · simp! only
    rw [← ha, ← hr]
    unfold actB rowB
    rw [hj, set_self hl]
    exact ⟨rfl, rfl⟩
theorem lose_ok {A : FA} {N L : Nat} {d : D} {S : Sto} {n m : Nat} {rm : Int} {xs : List D} (h : lvB N L d = true) (hS : RdS S n m rm xs) (hx : xs.length < 1000) : Yp (f_Road_lose A) [.d (.ref n), .d d] S fun r S' => r = actL A d xs ∧ S' = S.set m (.lst (rowB d xs)) := by
  have hl := hS.l
  generalize ha : actL A d xs = ac
  generalize hr : rowB d xs = rw
  unfold f_Road_lose
  refine yp_runY ?_
  simp! only [e_Road_lose_0]
  refine meth_look h hS (fun j hj => ?_) (fun hj => ?_)
  · obtain ⟨rfl, hlt⟩ := ix_some hj
    have hty : ∀ e : En, isTy "list" (.d (.ref m)) e S = true := fun e => isTy_list (ds := xs) (by simp [look, hl])
    simp! only [e_Road_lose_1, way_ok hS, hty, hl]
    refine wp_popJ hl hlt hx ?_
    rw [← ha, ← hr]
    unfold actL rowB
    rw [hj]
    exact ⟨rfl, rfl⟩
  · simp! only
    rw [← ha, ← hr]
    unfold actL rowB
    rw [hj, set_self hl]
    exact ⟨rfl, rfl⟩
theorem double_ok {A : FA} {N L : Nat} {d : D} {S : Sto} {n m : Nat} {rm : Int} {xs : List D} (h : lvB N L d = true) (hS : RdS S n m rm xs) (hx : xs.length < 1000) : Yp (f_Road_double A) [.d (.ref n), .d d] S fun r S' => r = actD A rm d xs ∧ S' = S.set m (.lst (rowD rm d xs)) := by
  have hl := hS.l
  generalize ha : actD A rm d xs = ac
  generalize hr : rowD rm d xs = rw
  unfold f_Road_double
  refine yp_runY ?_
  simp! only [e_Road_double_0]
  refine meth_look h hS (fun j hj => ?_) (fun hj => ?_)
  · obtain ⟨rfl, hlt⟩ := ix_some hj
    simp! only [e_Road_double_1, way_ok hS, wp_meth]
    refine ⟨n, rfl, _, _, hS.o, by decide +kernel, ?_⟩
    simp! only [way_ok hS, hl]
    refine ⟨xs[j]?.getD .non, by rw [atD_ofNat, List.getElem?_eq_getElem hlt]; rfl, ?_⟩
    refine (put_ok hS hx).mono ?_
    rintro r S1 ⟨rfl, rfl⟩
    refine ⟨_, rfl, ?_⟩
    rw [← ha, ← hr]
    unfold actD rowD
    rw [hj]
    by_cases hlr : (xs.length : Int) < rm
    · rw [decide_eq_true hlr, if_neg (by decide)]
      dsimp only
      rw [if_pos hlr, if_pos hlr]
      exact ⟨rfl, rfl⟩
    · rw [decide_eq_false hlr, if_pos (show (!false) = true from rfl), wp_yRaise0]
      dsimp only
      rw [if_neg hlr, if_neg hlr]
      exact ⟨rfl, rfl⟩
  · simp! only
    rw [← ha, ← hr]
    unfold actD rowD
    rw [hj, set_self hl]
    exact ⟨rfl, rfl⟩
end G

set_option Elab.async false
set_option linter.all false
set_option maxRecDepth 1000000
set_option maxHeartbeats 4000000
/- ev9 -/
/- evY -/
namespace G
variable [Wld]
open PySem PySem.Spec PyProof.Rows L2
local macro_rules
  | `(tactic| simp! only) => `(tactic| simp only [wp_ySeq, ysQ_nx, ysQ_rt, ysQ_x, wp_yl, wp_yIf, wp_yRet, wp_ySet, wp_yDrop, wp_yPar2, wp_yRaise, wp_bnY, wp_mBinY, wp_mIfY, wp_mNilY, wp_mConsY, wp_mTupY, wp_mCallDY, wp_disp, byQ_l, byQ_r, cyQ_l, cyQ_r, wp_mCallY, flY_rt, flY_nx, flY_x, ev0, ev1, ev2, ev3, ev4, ev5, ev6, ev7, ev8, ev9, wp_ix_refC, wp_setItE, List.map_cons, List.map_nil, List.replicate, List.cons_append, List.nil_append, List.length_cons, List.length_nil, List.set_cons_succ, List.set_cons_zero, List.getElem?_cons_zero, List.getElem?_cons_succ, Option.map_some, Option.bind_some, List.all_cons, List.all_nil, List.isEmpty_nil, List.isEmpty_cons, eq_self, if_true, if_false, ite_true, ite_false, Option.some.injEq, exists_eq_left', exists_eq_left, Nat.reduceAdd, Nat.reduceLT, Nat.reduceLeDiff, Int.reduceLE, Int.reduceLT, Int.reduceNeg, Int.reducePow, Int.reduceToNat])
  | `(tactic| simp! only [$xs,*]) => `(tactic| simp only [wp_ySeq, ysQ_nx, ysQ_rt, ysQ_x, wp_yl, wp_yIf, wp_yRet, wp_ySet, wp_yDrop, wp_yPar2, wp_yRaise, wp_bnY, wp_mBinY, wp_mIfY, wp_mNilY, wp_mConsY, wp_mTupY, wp_mCallDY, wp_disp, byQ_l, byQ_r, cyQ_l, cyQ_r, wp_mCallY, flY_rt, flY_nx, flY_x, ev0, ev1, ev2, ev3, ev4, ev5, ev6, ev7, ev8, ev9, wp_ix_refC, wp_setItE, List.map_cons, List.map_nil, List.replicate, List.cons_append, List.nil_append, List.length_cons, List.length_nil, List.set_cons_succ, List.set_cons_zero, List.getElem?_cons_zero, List.getElem?_cons_succ, Option.map_some, Option.bind_some, List.all_cons, List.all_nil, List.isEmpty_nil, List.isEmpty_cons, eq_self, if_true, if_false, ite_true, ite_false, Option.some.injEq, exists_eq_left', exists_eq_left, Nat.reduceAdd, Nat.reduceLT, Nat.reduceLeDiff, Int.reduceLE, Int.reduceLT, Int.reduceNeg, Int.reducePow, Int.reduceToNat, $xs,*])
theorem ref_letter {A : FA} {d : D} {S : Sto} (h : shownD d = some (shw d) ∧ (shw d).length ≤ 200000) (hd : datB d = true) : Fp (f__law_refusal A) [.d (.exc A.NoLetter ["i"] [d])] S fun r S' => r = .d (.str (Str.ofString "letter " ++ shw d)) ∧ S' = S := by
  have k0 : kt_0 A A.NoLetter = some false := by unfold kt_0; rw [if_pos rfl]
  have k1 : kt_1 A A.NoLetter = some true := by unfold kt_1; rw [if_pos rfl]
  have k2 : kt_2 A A.NoLetter = some true := by unfold kt_2; rw [if_pos rfl]
  have k3 : kt_3 A A.NoLetter = some false := by unfold kt_3; rw [if_pos rfl]
  have k4 : kt_4 A A.NoLetter = some false := by unfold kt_4; rw [if_pos rfl]
  unfold f__law_refusal
  rw [fp_runF]
  simp! only [e__law_refusal_0]
  refine wp_isY k4 ?_
  simp! only [e__law_refusal_1]
  refine wp_isY k3 ?_
  simp! only
  refine wp_isY k2 ?_
  simp! only [e__law_refusal_2]
  refine wp_isY k0 ?_
  simp! only [e__law_refusal_3]
  refine wp_isY k0 ?_
  simp! only
  refine wp_attY (by simp) rfl ?_
  simp! only
  refine ⟨d, ?_, shw d, h.1, ?_, rfl⟩
  · exact dat_d hd
  · have : (Str.ofString "letter ").length = 7 := by decide +kernel
    omega
theorem ref_full {A : FA} (hA : Dis A) {S : Sto} : Fp (f__law_refusal A) [.d (.exc A.Full [] [])] S fun r S' => r = .d (.str (Str.ofString "full")) ∧ S' = S := by
  have k0 : kt_0 A A.Full = some true := by unfold kt_0; rw [if_neg hA.Full_NoLetter, if_pos rfl]
  have k1 : kt_1 A A.Full = some false := by unfold kt_1; rw [if_neg hA.Full_NoLetter, if_pos rfl]
  have k2 : kt_2 A A.Full = some true := by unfold kt_2; rw [if_neg hA.Full_NoLetter, if_pos rfl]
  have k3 : kt_3 A A.Full = some false := by unfold kt_3; rw [if_neg hA.Full_NoLetter, if_pos rfl]
  have k4 : kt_4 A A.Full = some false := by unfold kt_4; rw [if_neg hA.Full_NoLetter, if_pos rfl]
  unfold f__law_refusal
  rw [fp_runF]
  simp! only [e__law_refusal_0]
  refine wp_isY k4 ?_
  simp! only [e__law_refusal_1]
  refine wp_isY k3 ?_
  simp! only
  refine wp_isY k2 ?_
  simp! only [e__law_refusal_2]
  refine wp_isY k0 ?_
  simp! only
  refine wp_isY k1 ?_
  simp! only [e__law_refusal_3]
  refine wp_isY k0 ?_
  simp! only
  try exact ⟨rfl, rfl⟩
def dueT (way : Str) (rm : Int) (d : D) (xs : List D) : Str := match ixOf xs.length d with
  | none => Str.ofString "letter " ++ shw d
  | some j => if way = Str.ofString "double" then (if (xs.length : Int) < rm then Str.ofString "told None" else Str.ofString "full") else if way = Str.ofString "bring" then Str.ofString "told " ++ shw (xs[j]?.getD .non) else Str.ofString "told None"
def rowT (way : Str) (rm : Int) (d : D) (xs : List D) : List D := if way = Str.ofString "double" then rowD rm d xs else rowB d xs
def WayT (way : Str) : Prop := way = Str.ofString "bring" ∨ way = Str.ofString "lose" ∨ way = Str.ofString "double"
theorem th_dat {k : Nat} {d : D} (h : TH k d) : datB d = true := Dt.dat h
/-- behind a deed -/
theorem told_fin {A : FA} (hA : Dis A) {k : Nat} {d : D} {way ac : Str} {n : Nat} {S : Sto} {S' : Sto} (hk : k ≤ 40) (h : TH k d) {z : R ⊕ Ex}
    (hz : (∃ x, z = .inl (.d x) ∧ (x = .non ∨ LT x) ∧ ac = Str.ofString "told " ++ shw x) ∨ (z = .inr (exL A d) ∧ ac = Str.ofString "letter " ++ shw d) ∨ (z = .inr ⟨A.Full, [], []⟩ ∧ ac = Str.ofString "full")) (hS : S' = S) :
    byQ (fun x => bnY mNilY fun xs => yl (pur (x :: xs))) (byQ (fun rs => yl (g1 gRepr rs)) (byQ (fun y => yl (gAdd (R.d (D.str (Str.ofString "told "))) y)) (byQ (fun r => yl (setS 3 r))
      (trQ [A.NoLetter, A.Full] (seQ (t__law_told_2 A) (flQ fun r S' => r = Rt.d (D.str ac) ∧ S' = S)) 4 (mSet 3 (mCall 1 (f__law_refusal A) (mCons (mVar 4) mNil))))))) z
      [some (Sl.d (D.ref n)), some (Sl.d (D.str way)), some (Sl.d d), some (Sl.d D.non), none] S' := by
  subst hS
  rcases hz with ⟨x, rfl, hx, rfl⟩ | ⟨rfl, rfl⟩ | ⟨rfl, rfl⟩
  · have hs : shownD x = some (shw x) ∧ (shw x).length ≤ 200000 ∧ datB x = true := by
      rcases hx with rfl | hx
      · exact ⟨rfl, by decide +kernel, rfl⟩
      · exact ⟨hx.shw.1, hx.shw.2, Dt.dat hx⟩
    simp! only
    refine ⟨x, dat_d hs.2.2, shw x, hs.1, ?_⟩
    simp! only
    refine ⟨by have : (Str.ofString "told ").length = 5 := by decide +kernel
               omega, ?_⟩
    simp! only [e__law_told_2]
    first | rfl | exact ⟨rfl, rfl⟩ | skip
  · refine ⟨⟨by simp [exL], by simp⟩, ?_⟩
    simp only [exL, List.set_cons_succ, List.set_cons_zero]
    simp! only
    refine (ref_letter (h.shw hk) (th_dat h)).mono ?_
    rintro r S1 ⟨rfl, rfl⟩
    simp! only [tyY, e__law_told_2]
    try exact ⟨rfl, rfl⟩
  · refine ⟨⟨by simp, by simp⟩, ?_⟩
    simp only [List.set_cons_succ, List.set_cons_zero]
    simp! only
    refine (ref_full hA).mono ?_
    rintro r S1 ⟨rfl, rfl⟩
    simp! only [tyY, e__law_told_2]
    try exact ⟨rfl, rfl⟩
theorem meth_y {A : FA} {f : FnY} {y : Str} {d : D} {way : Str} {n m : Nat} {rm : Int} {xs : List D} {S : Sto} {es : En} {F : R ⊕ Ex → En → Sto → Prop} (hS : RdS S n m rm xs) (hy : y ∉ [Str.ofString "room", Str.ofString "under_way"]) {P : Rt ⊕ Ex → Sto → Prop}
    (h : Yp f [.d (.ref n), .d d] S P) (hF : ∀ r S', P r S' → cyQ F (some (.d (.ref n)) :: some (.d (.str way)) :: some (.d d) :: es) r S') :
    Wp (mMethY 0 y 2 [] f (mVar 0) (mCons (mVar 2) mNil)) (some (.d (.ref n)) :: some (.d (.str way)) :: some (.d d) :: es) S F := by
  rw [wp_methY]
  simp! only
  refine ⟨n, rfl, _, _, hS.o, hy, ?_⟩
  exact h.mono hF
theorem told_ok {A : FA} (hA : Dis A) {k : Nat} {d : D} {S : Sto} {n m : Nat} {rm : Int} {xs : List D} {way : Str} (hw : WayT way) (hk : k ≤ 40) (h : TH k d) (hS : RdS S n m rm xs) (hx : xs.length < 1000) (hL : ∀ x ∈ xs, LT x) : Fp (f__law_told A) [.d (.ref n), .d (.str way), .d d] S fun r S' => r = .d (.str (dueT way rm d xs)) ∧ S' = S.set m (.lst (rowT way rm d xs)) := by
  have hs := h.shw hk
  have hn : Str.ofString "told None" = Str.ofString "told " ++ shw .non := by decide +kernel
  generalize ha : dueT way rm d xs = ac
  generalize hr : rowT way rm d xs = rw
  unfold f__law_told
  rw [fp_runF]
  simp! only [e__law_told_0, e__law_told_1]
  refine wp_mTryY ?_
  simp! only
  rcases hw with rfl | rfl | rfl
  · rw [if_pos (by decide +kernel)]
    refine meth_y (A := A) hS (by decide +kernel) (bring_ok (A := A) h.l hS hx) ?_
    rintro r S' ⟨rfl, rfl⟩
    rw [← hr]
    have e : rowT (Str.ofString "bring") rm d xs = rowB d xs := by unfold rowT; rw [if_neg (by decide +kernel)]
    rw [e]
    cases hj : ixOf xs.length d with
    | none =>
      have e1 : actB A d xs = .inr (exL A d) := by unfold actB; rw [hj]
      rw [e1, cyQ_r]
      refine told_fin hA hk h (.inr (.inl ⟨rfl, ?_⟩)) rfl
      rw [← ha]; unfold dueT; rw [hj]
    | some j =>
      have e1 : actB A d xs = .inl (.d (xs[j]?.getD .non)) := by unfold actB; rw [hj]
      rw [e1, cyQ_l]
      obtain ⟨_, hlt⟩ := ix_some hj
      refine told_fin hA hk h (.inl ⟨_, rfl, .inr ?_, ?_⟩) rfl
      · rw [List.getElem?_eq_getElem hlt]
        exact hL _ (List.getElem_mem hlt)
      · rw [← ha]; unfold dueT; rw [hj]
        dsimp only
        rw [if_neg (by decide +kernel), if_pos rfl]
  · rw [if_neg (by decide +kernel), if_pos (by decide +kernel)]
    refine meth_y (A := A) hS (by decide +kernel) (lose_ok (A := A) h.l hS hx) ?_
    rintro r S' ⟨rfl, rfl⟩
    rw [← hr]
    have e : rowT (Str.ofString "lose") rm d xs = rowB d xs := by unfold rowT; rw [if_neg (by decide +kernel)]
    rw [e]
    cases hj : ixOf xs.length d with
    | none =>
      have e1 : actL A d xs = .inr (exL A d) := by unfold actL; rw [hj]
      rw [e1, cyQ_r]
      refine told_fin hA hk h (.inr (.inl ⟨rfl, ?_⟩)) rfl
      rw [← ha]; unfold dueT; rw [hj]
    | some j =>
      have e1 : actL A d xs = .inl (.d .non) := by unfold actL; rw [hj]
      rw [e1, cyQ_l]
      refine told_fin hA hk h (.inl ⟨_, rfl, .inl rfl, ?_⟩) rfl
      rw [← ha]; unfold dueT; rw [hj]
      dsimp only
      rw [if_neg (by decide +kernel), if_neg (by decide +kernel), hn]
  · rw [if_neg (by decide +kernel), if_neg (by decide +kernel)]
    refine meth_y (A := A) hS (by decide +kernel) (double_ok (A := A) h.l hS hx) ?_
    rintro r S' ⟨rfl, rfl⟩
    rw [← hr]
    have e : rowT (Str.ofString "double") rm d xs = rowD rm d xs := by unfold rowT; rw [if_pos rfl]
    rw [e]
    cases hj : ixOf xs.length d with
    | none =>
      have e1 : actD A rm d xs = .inr (exL A d) := by unfold actD; rw [hj]
      rw [e1, cyQ_r]
      refine told_fin hA hk h (.inr (.inl ⟨rfl, ?_⟩)) rfl
      rw [← ha]; unfold dueT; rw [hj]
    | some j =>
      by_cases hlr : (xs.length : Int) < rm
      · have e1 : actD A rm d xs = .inl (.d .non) := by unfold actD; rw [hj]; exact if_pos hlr
        rw [e1, cyQ_l]
        refine told_fin hA hk h (.inl ⟨_, rfl, .inl rfl, ?_⟩) rfl
        rw [← ha]; unfold dueT; rw [hj]
        dsimp only
        rw [if_pos rfl, if_pos hlr, hn]
      · have e1 : actD A rm d xs = .inr ⟨A.Full, [], []⟩ := by unfold actD; rw [hj]; exact if_neg hlr
        rw [e1, cyQ_r]
        refine told_fin hA hk h (.inr (.inr ⟨rfl, ?_⟩)) rfl
        rw [← ha]; unfold dueT; rw [hj]
        dsimp only
        rw [if_pos rfl, if_neg hlr]
theorem due_ok {k : Nat} {d : D} {S : Sto} {q : Nat} {rm : Int} {xs : List D} {way : Str} (hw : WayT way) (hk : k ≤ 40) (h : TH k d) (hS : S[q]? = some (.lst xs)) (hx : xs.length < 1000) (hL : ∀ x ∈ xs, LT x) : Fp f__law_due [.d (.ref q), .d (.int rm), .d (.str way), .d d] S fun r S' => r = .d (.str (dueT way rm d xs)) ∧ S' = S.set q (.lst (rowT way rm d xs)) := by
  have hs := h.shw hk
  obtain ⟨kk, hkd, h1, h2⟩ := lv_kd h.l
  have hn : Str.ofString "told None" = Str.ofString "told " ++ shw .non := by decide +kernel
  generalize ha : dueT way rm d xs = ac
  generalize hr : rowT way rm d xs = rw
  unfold f__law_due
  rw [fp_runF]
  simp! only [e__law_due_0, hkd]
  have nope : ixOf xs.length d = none → ∃ x, dat (R.d d) [some (Sl.d (D.ref q)), some (Sl.d (D.int rm)), some (Sl.d (D.str way)), some (Sl.d d), none] S = some x ∧ ∃ t, shownD x = some t ∧
      (Str.ofString "letter ").length + t.length ≤ 1000000 ∧ Rt.d (D.str (Str.ofString "letter " ++ t)) = Rt.d (D.str ac) ∧ S = List.set S q (O.lst rw) := fun hj => by
    refine ⟨d, dat_d (th_dat h), shw d, hs.1, ?_, ?_, ?_⟩
    · have : (Str.ofString "letter ").length = 7 := by decide +kernel
      omega
    · rw [← ha]; unfold dueT; rw [hj]
    · rw [← hr]; unfold rowT rowD rowB; rw [hj]; dsimp only
      rw [ite_self, set_self hS]
  cases hi : isI d with
  | false =>
    rw [hi, Bool.false_or] at h1
    rw [h1]
    cases hb : isK kk .bool
    · rw [if_pos (by decide)]; exact nope (ix_not hi)
    · rw [if_neg (by decide), if_pos rfl]; exact nope (ix_not hi)
  | true =>
    rw [h1, hi, h2 hi, if_neg (by decide), if_neg (by decide)]
    obtain ⟨i, rfl⟩ : ∃ i, d = .int i := by cases d <;> first | exact ⟨_, rfl⟩ | cases hi
    simp! only [wp_mChain, wp_len_refC, hS]
    by_cases h0 : 0 ≤ i
    · rw [decide_eq_true h0, if_pos rfl]
      by_cases hlt : i < (xs.length : Int)
      · rw [decide_eq_true hlt, if_neg (by decide)]
        have hj : ixOf xs.length (.int i) = some i.toNat := by unfold ixOf; exact if_pos ⟨h0, hlt⟩
        obtain ⟨ej, hjl⟩ := ix_some hj
        generalize i.toNat = j at hj ej hjl
        cases ej
        simp! only [e__law_due_1, e__law_due_2, hS]
        have hgx : xs[j]?.getD .non = xs[j] := by rw [List.getElem?_eq_getElem hjl]; rfl
        rcases hw with rfl | rfl | rfl
        · rw [if_neg (by decide +kernel)]
          refine wp_popJ hS hjl hx ?_
          simp! only [e__law_due_3]
          rw [if_pos (by decide +kernel)]
          have hx2 := hL _ (List.getElem_mem hjl)
          refine ⟨xs[j]?.getD .non, dat_d (by rw [hgx]; exact Dt.dat hx2), shw (xs[j]?.getD .non), by rw [hgx]; exact hx2.shw.1, ?_, ?_, ?_⟩
          · have : (Str.ofString "told ").length = 5 := by decide +kernel
            have := hx2.shw.2
            rw [hgx]; omega
          · rw [← ha]; unfold dueT; rw [hj]; dsimp only
            rw [if_neg (by decide +kernel), if_pos rfl]
          · rw [← hr]; unfold rowT rowB; rw [if_neg (by decide +kernel), hj]
        · rw [if_neg (by decide +kernel)]
          refine wp_popJ hS hjl hx ?_
          simp! only [e__law_due_3]
          rw [if_neg (by decide +kernel)]
          refine ⟨?_, ?_⟩
          · rw [← ha]; unfold dueT; rw [hj]; dsimp only
            rw [if_neg (by decide +kernel), if_neg (by decide +kernel)]
          · rw [← hr]; unfold rowT rowB; rw [if_neg (by decide +kernel), hj]
        · rw [if_pos (by decide +kernel)]
          by_cases hlr : (xs.length : Int) < rm
          · rw [if_neg (by simp; omega)]
            refine ⟨xs[j]?.getD .non, by rw [atD_ofNat, hgx, List.getElem?_eq_getElem hjl], by omega, ?_, ?_⟩
            · rw [← ha]; unfold dueT; rw [hj]; dsimp only
              rw [if_pos rfl, if_pos hlr]
            · rw [← hr]; unfold rowT rowD; rw [if_pos rfl, hj]; dsimp only
              rw [if_pos hlr]
          · rw [if_pos (by simp; omega)]
            refine ⟨?_, ?_⟩
            · rw [← ha]; unfold dueT; rw [hj]; dsimp only
              rw [if_pos rfl, if_neg hlr]
            · rw [← hr]; unfold rowT rowD; rw [if_pos rfl, hj]; dsimp only
              rw [if_neg hlr, set_self hS]
      · rw [decide_eq_false hlt, if_pos (show (!false) = true from rfl)]
        have hj : ixOf xs.length (.int i) = none := by unfold ixOf; exact if_neg fun z => hlt z.2
        exact nope hj
    · rw [decide_eq_false h0, if_neg (by decide)]
      have hj : ixOf xs.length (.int i) = none := by unfold ixOf; exact if_neg fun z => h0 z.1
      exact nope hj
end G

set_option Elab.async false
set_option linter.all false
set_option maxRecDepth 1000000
set_option maxHeartbeats 4000000
/- ev9 -/
/- evY -/
namespace G
variable [Wld]
open PySem PySem.Spec PyProof.Rows L2
local macro_rules
  | `(tactic| simp! only) => `(tactic| simp only [wp_ySeq, ysQ_nx, ysQ_rt, ysQ_x, wp_yl, wp_yIf, wp_yRet, wp_ySet, wp_yDrop, wp_yPar2, wp_yRaise, wp_bnY, wp_mBinY, wp_mIfY, wp_mNilY, wp_mConsY, wp_mTupY, wp_mCallDY, wp_disp, byQ_l, byQ_r, cyQ_l, cyQ_r, wp_mCallY, flY_rt, flY_nx, flY_x, ev0, ev1, ev2, ev3, ev4, ev5, ev6, ev7, ev8, ev9, wp_ix_refC, wp_setItE, List.map_cons, List.map_nil, List.replicate, List.cons_append, List.nil_append, List.length_cons, List.length_nil, List.set_cons_succ, List.set_cons_zero, List.getElem?_cons_zero, List.getElem?_cons_succ, Option.map_some, Option.bind_some, List.all_cons, List.all_nil, List.isEmpty_nil, List.isEmpty_cons, eq_self, if_true, if_false, ite_true, ite_false, Option.some.injEq, exists_eq_left', exists_eq_left, Nat.reduceAdd, Nat.reduceLT, Nat.reduceLeDiff, Int.reduceLE, Int.reduceLT, Int.reduceNeg, Int.reducePow, Int.reduceToNat])
  | `(tactic| simp! only [$xs,*]) => `(tactic| simp only [wp_ySeq, ysQ_nx, ysQ_rt, ysQ_x, wp_yl, wp_yIf, wp_yRet, wp_ySet, wp_yDrop, wp_yPar2, wp_yRaise, wp_bnY, wp_mBinY, wp_mIfY, wp_mNilY, wp_mConsY, wp_mTupY, wp_mCallDY, wp_disp, byQ_l, byQ_r, cyQ_l, cyQ_r, wp_mCallY, flY_rt, flY_nx, flY_x, ev0, ev1, ev2, ev3, ev4, ev5, ev6, ev7, ev8, ev9, wp_ix_refC, wp_setItE, List.map_cons, List.map_nil, List.replicate, List.cons_append, List.nil_append, List.length_cons, List.length_nil, List.set_cons_succ, List.set_cons_zero, List.getElem?_cons_zero, List.getElem?_cons_succ, Option.map_some, Option.bind_some, List.all_cons, List.all_nil, List.isEmpty_nil, List.isEmpty_cons, eq_self, if_true, if_false, ite_true, ite_false, Option.some.injEq, exists_eq_left', exists_eq_left, Nat.reduceAdd, Nat.reduceLT, Nat.reduceLeDiff, Int.reduceLE, Int.reduceLT, Int.reduceNeg, Int.reducePow, Int.reduceToNat, $xs,*])
theorem wp_compL_nilE {e : En} {S : Sto} {vs : List Nat} {t : Tgt} {c : M Bool} {elt : M R} {ws : List (R × List D)} {q : List D → En → Sto → Prop} (hw : wat ws e S = true) (hq : q [] e S) : Wp (compL vs t c elt ws []) e S q := by
  refine ⟨[], e, S, ?_, hq⟩
  rw [compL]
  simp only [hw, if_true]
theorem wp_compL_consE {e : En} {S : Sto} {vs : List Nat} {t : Tgt} {elt : M R} {ws : List (R × List D)} {d : D} {ds : List D} {q : List D → En → Sto → Prop} {e1 : En} (hw : wat ws e S = true) (h1 : t d e = some e1)
    (h : Wp elt e1 S fun r e3 S3 => ∃ y, r = .d y ∧ Wp (compL vs t (pur true) elt ws ds) (wipeE e3 vs) S3 fun ys e4 S4 => q (y :: ys) e4 S4) : Wp (compL vs t (pur true) elt ws (d :: ds)) e S q := by
  obtain ⟨r, e3, S3, h3, y, rfl, ys, e4, S4, h4, hq⟩ := h
  refine ⟨y :: ys, e4, S4, ?_, hq⟩
  rw [compL]
  simp only [hw, h1, h3, h4, if_true, pur]
def roadO (n : Nat) (l : Int) : O := .ins 0 [Str.ofString "room", Str.ofString "under_way"] [.int l, .ref (n + 1)]
theorem make_ok {e : En} {S : Sto} {l : Int} {ms : M (List R)} {Q : R → En → Sto → Prop} (hm : ms e S = some ([.d (.int l)], e, S)) (q : Q (.d (.ref S.length)) e (S ++ [roadO S.length l, .lst []])) : Wp (mMake 0 2 f_Road___init__ ms) e S Q := by
  rw [wp_make]
  refine ⟨_, _, _, hm, rfl, _, rfl, ?_⟩
  unfold f_Road___init__
  rw [fp_runF]
  simp! only [e_Road___init___0, wp_setF]
  have es : ∀ I : O, (S ++ [O.ins 0 [] []]).set S.length I = S ++ [I] := fun I => by
    rw [List.set_append_right _ _ (Nat.le_refl _)]
    simp
  refine ⟨S.length, rfl, [], [], by rw [List.getElem?_append_right (Nat.le_refl _)]; simp, ⟨by simp, by simp⟩, ?_⟩
  rw [es]
  simp! only [e_Road___init___1, wp_setF]
  refine ⟨S.length, rfl, [Str.ofString "room"], [.int l], by rw [List.append_assoc, List.getElem?_append_right (Nat.le_refl _)]; simp, ⟨by decide +kernel, by simp⟩, ?_⟩
  rw [List.append_assoc, List.set_append_right _ _ (Nat.le_refl _), Nat.sub_self, List.length_append]
  exact q
/-- a room drawn, and what it is -/
def RmD (r : D) (l : Int) : Prop := (r = .non ∧ l = 4) ∨ (r = .int l ∧ 1 ≤ l ∧ l ≤ 7)
def six (J : List O) (l1 l2 : Int) (xs ys us vs : List D) : List O := J ++ [roadO (J.length + 2) l1, .lst xs, roadO (J.length + 4) l2, .lst ys, .lst us, .lst vs]
theorem Pot.get {k : Nat} {rest : List O} {S : Sto} (h : Pot k rest S) (j : Nat) : S[j + 2]? = rest[j]? := by
  obtain ⟨cs, s, t, rfl, _⟩ := h
  rfl
theorem Pot.set {k : Nat} {rest : List O} {S : Sto} (h : Pot k rest S) (j : Nat) (o : O) : Pot k (rest.set j o) (S.set (j + 2) o) := by
  obtain ⟨cs, s, t, rfl, h⟩ := h
  exact ⟨cs, s, t, rfl, h⟩
theorem Pot.len {k : Nat} {rest : List O} {S : Sto} (h : Pot k rest S) : S.length = rest.length + 2 := by
  obtain ⟨cs, s, t, rfl, h⟩ := h
  rfl
theorem Pot.app {k : Nat} {rest l : List O} {S : Sto} (h : Pot k rest S) : Pot k (rest ++ l) (S ++ l) := by
  obtain ⟨cs, s, t, rfl, h⟩ := h
  exact ⟨cs, s, t, rfl, h⟩
section
variable {J : List O} {l1 l2 : Int} {xs ys us vs zs : List D}
theorem six_get (i : Nat) : (six J l1 l2 xs ys us vs)[J.length + i]? = [roadO (J.length + 2) l1, .lst xs, roadO (J.length + 4) l2, .lst ys, .lst us, .lst vs][i]? := by
  unfold six
  rw [List.getElem?_append_right (by omega)]
  congr 1
  omega
theorem six_set (i : Nat) (o : O) : (six J l1 l2 xs ys us vs).set (J.length + i) o = J ++ [roadO (J.length + 2) l1, .lst xs, roadO (J.length + 4) l2, .lst ys, .lst us, .lst vs].set i o := by
  unfold six
  rw [List.set_append_right _ _ (by omega)]
  congr 2
  omega
end
theorem rm_get {k : Nat} {J : List O} {l1 l2 : Int} {xs ys us vs : List D} {S : Sto} (h : Pot k (six J l1 l2 xs ys us vs) S) (i : Nat) : S[J.length + i + 2]? = [roadO (J.length + 2) l1, .lst xs, roadO (J.length + 4) l2, .lst ys, .lst us, .lst vs][i]? := by
  rw [h.get, six_get]
theorem wts_le {xs : List D} (h : ∀ x ∈ xs, LT x) : wts xs ≤ xs.length * 3001 := by
  induction xs with
  | nil => simp [wts]
  | cons x xs ih =>
    have h1 := (h x (by simp)).w
    have h2 := ih fun y hy => h y (by simp [hy])
    simp only [wts, List.length_cons]
    omega
theorem tup_shw {xs : List D} (h : ∀ x ∈ xs, LT x) (hl : xs.length ≤ 40) : shownD (.tup xs) = some (shw (.tup xs)) ∧ datB (.tup xs) = true := by
  have hw := wts_le h
  have hd : Dt 1000 40 130000 11 (.tup xs) := dt_tup.mpr ⟨hl, fun x hx => (h x hx).mono (Nat.le_refl _) (by omega) (by omega) (by omega), by omega⟩
  obtain ⟨t, h1, _, _⟩ := hd.shown (by decide) (by omega) (by omega)
  refine ⟨?_, Dt.dat hd⟩
  unfold shw
  rw [h1]; rfl
theorem letters_comp {e0 e1 e3 e4 e5 e6 e7 e8 e9 e10 e11 e12 e13 e14 e15 : Option Sl} {S : Sto} {n1 m1 n2 m2 : Nat} {l1 l2 : Int} {xs ys : List D} {F : List D → En → Sto → Prop} (h1 : RdS S n1 m1 l1 xs) (h2 : RdS S n2 m2 l2 ys) (hx : ∀ x ∈ xs, LT x) (hy : ∀ x ∈ ys, LT x) (lx : xs.length ≤ 40) (ly : ys.length ≤ 40)
    (q : F [.str (shw (.tup xs)), .str (shw (.tup ys))] [e0, e1, some (.own (.lst [.ref n1, .ref n2])), e3, e4, e5, e6, e7, e8, e9, e10, e11, e12, e13, e14, none] S) :
    Wp (compL [15] (gtName 15) (pur true) (bnd (mCons (mMeth 0 "letters" 1 [] f_Road_letters (mVar 15) mNil) mNil) (g1 gRepr)) [(R.loc 2, [D.ref n1, D.ref n2])] [D.ref n1, D.ref n2]) [e0, e1, some (.own (.lst [.ref n1, .ref n2])), e3, e4, e5, e6, e7, e8, e9, e10, e11, e12, e13, e14, e15] S F := by
  have one : ∀ {n m : Nat} {l : Int} {xs : List D} {G : R → En → Sto → Prop}, RdS S n m l xs → (∀ x ∈ xs, LT x) → xs.length ≤ 40 → G (.d (.str (shw (.tup xs)))) [e0, e1, some (.own (.lst [.ref n1, .ref n2])), e3, e4, e5, e6, e7, e8, e9, e10, e11, e12, e13, e14, some (.d (.ref n))] S →
      Wp (bnd (mCons (mMeth 0 "letters" 1 [] f_Road_letters (mVar 15) mNil) mNil) (g1 gRepr)) [e0, e1, some (.own (.lst [.ref n1, .ref n2])), e3, e4, e5, e6, e7, e8, e9, e10, e11, e12, e13, e14, some (.d (.ref n))] S G := by
    intro n m l xs G h hx lx q
    simp! only [wp_meth]
    refine ⟨n, rfl, _, _, h.o, by decide +kernel, ?_⟩
    refine (letters_ok h (by omega)).mono ?_
    rintro r S' ⟨rfl, rfl⟩
    have ht := tup_shw hx lx
    exact ⟨_, dat_d ht.2, _, ht.1, q⟩
  refine wp_compL_consE (wat_one rfl) (gt_name.mpr ⟨by simp, rfl⟩) ?_
  refine one h1 hx lx ?_
  refine ⟨_, rfl, wp_compL_consE (wat_one rfl) (gt_name.mpr ⟨by simp, rfl⟩) ?_⟩
  refine one h2 hy ly ?_
  exact ⟨_, rfl, wp_compL_nilE (wat_one rfl) q⟩
theorem owns_comp {e0 e1 e2 e3 e4 e6 e7 e8 e9 e10 e11 e12 e13 e14 e15 : Option Sl} {S : Sto} {q1 q2 : Nat} {xs ys : List D} {F : List D → En → Sto → Prop} (h1 : S[q1]? = some (.lst xs)) (h2 : S[q2]? = some (.lst ys)) (hx : ∀ x ∈ xs, LT x) (hy : ∀ x ∈ ys, LT x) (lx : xs.length ≤ 40) (ly : ys.length ≤ 40)
    (q : F [.str (shw (.tup xs)), .str (shw (.tup ys))] [e0, e1, e2, e3, e4, some (.own (.lst [.ref q1, .ref q2])), e6, e7, e8, e9, e10, e11, e12, e13, e14, none] S) :
    Wp (compL [15] (gtName 15) (pur true) (bnd (mCons (bnd (mCons (mVar 15) mNil) (g1 gTuple)) mNil) (g1 gRepr)) [(R.loc 5, [D.ref q1, D.ref q2])] [D.ref q1, D.ref q2]) [e0, e1, e2, e3, e4, some (.own (.lst [.ref q1, .ref q2])), e6, e7, e8, e9, e10, e11, e12, e13, e14, e15] S F := by
  have one : ∀ {n : Nat} {xs : List D} {G : R → En → Sto → Prop}, S[n]? = some (.lst xs) → (∀ x ∈ xs, LT x) → xs.length ≤ 40 → G (.d (.str (shw (.tup xs)))) [e0, e1, e2, e3, e4, some (.own (.lst [.ref q1, .ref q2])), e6, e7, e8, e9, e10, e11, e12, e13, e14, some (.d (.ref n))] S →
      Wp (bnd (mCons (bnd (mCons (mVar 15) mNil) (g1 gTuple)) mNil) (g1 gRepr)) [e0, e1, e2, e3, e4, some (.own (.lst [.ref q1, .ref q2])), e6, e7, e8, e9, e10, e11, e12, e13, e14, some (.d (.ref n))] S G := by
    intro n xs G h hx lx q
    simp! only [h]
    have ht := tup_shw hx lx
    exact ⟨_, dat_d ht.2, _, ht.1, q⟩
  refine wp_compL_consE (wat_one rfl) (gt_name.mpr ⟨by simp, rfl⟩) ?_
  refine one h1 hx lx ?_
  refine ⟨_, rfl, wp_compL_consE (wat_one rfl) (gt_name.mpr ⟨by simp, rfl⟩) ?_⟩
  refine one h2 hy ly ?_
  exact ⟨_, rfl, wp_compL_nilE (wat_one rfl) q⟩
/-- the road that is looked at, its row, the law's own row -/
theorem side {k : Nat} {J : List O} {l1 l2 : Int} {xs ys : List D} {S : Sto} (i : Bool) (h : Pot k (six J l1 l2 xs ys xs ys) S) :
    RdS S (if i then J.length + 2 + 2 else J.length + 2) (if i then J.length + 2 + 3 else J.length + 2 + 1) (if i then l2 else l1) (if i then ys else xs) ∧ S[if i then J.length + 2 + 2 + 2 + 1 else J.length + 2 + 2 + 2]? = some (.lst (if i then ys else xs)) ∧
    (if i then J.length + 2 + 2 + 2 + 1 else J.length + 2 + 2 + 2) ≠ (if i then J.length + 2 + 3 else J.length + 2 + 1) ∧
    ∀ zs, Pot k (six J l1 l2 (if i then xs else zs) (if i then zs else ys) (if i then xs else zs) (if i then zs else ys)) ((S.set (if i then J.length + 2 + 3 else J.length + 2 + 1) (.lst zs)).set (if i then J.length + 2 + 2 + 2 + 1 else J.length + 2 + 2 + 2) (.lst zs)) := by
  have g := rm_get h
  cases i
  · refine ⟨⟨(g 0), (g 1), by simp⟩, (g 4), by simp, fun zs => ?_⟩
    have h1 := (h.set (J.length + 1) (.lst zs)).set (J.length + 4) (.lst zs)
    rw [six_set] at h1
    have e : (J ++ [roadO (J.length + 2) l1, O.lst xs, roadO (J.length + 4) l2, O.lst ys, O.lst xs, O.lst ys].set 1 (O.lst zs)).set (J.length + 4) (.lst zs) = six J l1 l2 zs ys zs ys := by
      show (six J l1 l2 zs ys xs ys).set (J.length + 4) (.lst zs) = _
      rw [six_set]; rfl
    rw [e] at h1
    exact h1
  · refine ⟨⟨(g 2), (g 3), by simp⟩, (g 5), by simp, fun zs => ?_⟩
    have h1 := (h.set (J.length + 3) (.lst zs)).set (J.length + 5) (.lst zs)
    rw [six_set] at h1
    have e : (J ++ [roadO (J.length + 2) l1, O.lst xs, roadO (J.length + 4) l2, O.lst ys, O.lst xs, O.lst ys].set 3 (O.lst zs)).set (J.length + 5) (.lst zs) = six J l1 l2 xs zs xs zs := by
      show (six J l1 l2 xs zs xs ys).set (J.length + 5) (.lst zs) = _
      rw [six_set]; rfl
    rw [e] at h1
    exact h1
theorem wp_ne_two {t u : Str} {e : En} {S : Sto} {Q : R → En → Sto → Prop} : Wp (gEq true (.new (.lst [.str t, .str u])) (.new (.lst [.str t, .str u]))) e S Q ↔ Q (.d (.bl false)) e S := by
  refine wp_some ?_
  unfold gEq
  have h1 : dat (.new (.lst [.str t, .str u])) e S = some (.lst [.str t, .str u]) := rfl
  rw [h1]
  have h2 : deq 60 (.lst [.str t, .str u]) (.lst [.str t, .str u]) = some true := by
    unfold deq
    simp [zipF, deq, eqS]
  dsimp only
  rw [h2]
  rfl
theorem after_ok {k : Nat} {J : List O} {l1 l2 : Int} {xs ys : List D} {S : Sto} {e0 e1 e3 e4 e6 e7 e8 e9 e10 e11 e12 e13 e14 e15 : Option Sl} {F : R → En → Sto → Prop} (hS : Pot k (six J l1 l2 xs ys xs ys) S) (hx : ∀ x ∈ xs, LT x) (hy : ∀ x ∈ ys, LT x) (lx : xs.length ≤ 40) (ly : ys.length ≤ 40)
    (q : F (.d (.bl false)) [e0, e1, some (.own (.lst [.ref (J.length + 2), .ref (J.length + 2 + 2)])), e3, e4, some (.own (.lst [.ref (J.length + 2 + 2 + 2), .ref (J.length + 2 + 2 + 2 + 1)])), e6, e7, e8, e9, e10, e11, e12, e13, e14, none] S) :
    Wp (compL [15] (gtName 15) (pur true) (bnd (mCons (mMeth 0 "letters" 1 [] f_Road_letters (mVar 15) mNil) mNil) (g1 gRepr)) [(R.loc 2, [D.ref (J.length + 2), D.ref (J.length + 2 + 2)])] [D.ref (J.length + 2), D.ref (J.length + 2 + 2)])
      [e0, e1, some (.own (.lst [.ref (J.length + 2), .ref (J.length + 2 + 2)])), e3, e4, some (.own (.lst [.ref (J.length + 2 + 2 + 2), .ref (J.length + 2 + 2 + 2 + 1)])), e6, e7, e8, e9, e10, e11, e12, e13, e14, e15] S fun ys e2 S2 =>
        Wp (mVar 5) e2 S2 fun r e1 S1 => Wp (srcOf r) e1 S1 fun src e1 S1 => Wp (compL [15] (gtName 15) (pur true) (bnd (mCons (bnd (mCons (mVar 15) mNil) (g1 gTuple)) mNil) (g1 gRepr)) src.ws src.items) (List.set e1 15 none) S1 fun ys_1 e2 S2 =>
          Wp (gEq true (R.new (O.lst ys)) (R.new (O.lst ys_1))) e2 S2 F := by
  obtain ⟨a1, a2, _, _⟩ := side false hS
  obtain ⟨b1, b2, _, _⟩ := side true hS
  refine letters_comp a1 b1 hx hy lx ly ?_
  simp! only
  refine owns_comp a2 b2 hx hy lx ly ?_
  exact wp_ne_two.mpr q
theorem rowT_lt {w : Str} {l : Int} {d : D} {us : List D} (h : ∀ x ∈ us, LT x) : (∀ x ∈ rowT w l d us, LT x) ∧ (rowT w l d us).length ≤ us.length + 1 := by
  have hB : (∀ x ∈ rowB d us, LT x) ∧ (rowB d us).length ≤ us.length + 1 := by
    unfold rowB
    split
    · exact ⟨h, by omega⟩
    · rename_i j hj
      exact ⟨fun x hx => h x (List.mem_of_mem_eraseIdx hx), by have := List.length_eraseIdx_le us j; omega⟩
  have hD : (∀ x ∈ rowD l d us, LT x) ∧ (rowD l d us).length ≤ us.length + 1 := by
    unfold rowD
    split
    · exact ⟨h, by omega⟩
    · rename_i j hj
      obtain ⟨_, hlt⟩ := ix_some hj
      split
      · refine ⟨fun x hx => ?_, by simp⟩
        rcases List.mem_append.mp hx with hx | hx
        · exact h x hx
        · cases List.mem_singleton.mp hx
          rw [List.getElem?_eq_getElem hlt]
          exact h _ (List.getElem_mem hlt)
      · exact ⟨h, by omega⟩
  unfold rowT
  split
  · exact hD
  · exact hB
theorem right_ok {A : FA} (hA : Dis A) {k : Nat} {J : List O} {S : Sto} (hk : k + 1200 < 1000000) (hS : Pot k J S) : Fp (f__law_right A) [.d (.ref 1)] S fun r S' => r = .d (.bl true) ∧ ∃ J', Pot (k + 1100) J' S' := by
  unfold f__law_right
  rw [fp_runF]
  simp! only [e__law_right_0]
  refine (of_brw (by simp) (by simp) (by omega) hS).mono ?_
  rintro r S1 ⟨r1, rfl, hr1, hS1⟩
  simp! only
  refine (of_brw (by simp) (by simp) (by omega) hS1).mono ?_
  rintro r S2 ⟨r2, rfl, hr2, hS2⟩
  obtain ⟨l1, h1⟩ : ∃ l, RmD r1 l := by
    simp only [List.mem_cons, List.not_mem_nil, or_false] at hr1
    rcases hr1 with rfl | rfl | rfl | rfl | rfl
    · exact ⟨1, .inr ⟨rfl, by omega, by omega⟩⟩
    · exact ⟨2, .inr ⟨rfl, by omega, by omega⟩⟩
    · exact ⟨4, .inr ⟨rfl, by omega, by omega⟩⟩
    · exact ⟨7, .inr ⟨rfl, by omega, by omega⟩⟩
    · exact ⟨4, .inl ⟨rfl, rfl⟩⟩
  obtain ⟨l2, h2⟩ : ∃ l, RmD r2 l := by
    simp only [List.mem_cons, List.not_mem_nil, or_false] at hr2
    rcases hr2 with rfl | rfl | rfl
    · exact ⟨1, .inr ⟨rfl, by omega, by omega⟩⟩
    · exact ⟨3, .inr ⟨rfl, by omega, by omega⟩⟩
    · exact ⟨4, .inl ⟨rfl, rfl⟩⟩
  clear hr1 hr2
  simp! only
  simp! only [e__law_right_1]
  have mk : ∀ (r : D) (l : Int) (e : En) (S : Sto) (Q : R → En → Sto → Prop), RmD r l → e[14]? = some (some (.d r)) → Q (.d (.ref S.length)) e (S ++ [roadO S.length l, .lst []]) →
      Wp (mIf (bnd (mBin (gIsN false) (mVar 14) (mC .non)) asB) (mMake 0 2 f_Road___init__ (pur (List.map R.d [.int 4]))) (mMake 0 2 f_Road___init__ (mCons (mVar 14) mNil))) e S Q := by
    rintro r l e S Q (⟨rfl, rfl⟩ | ⟨rfl, _, _⟩) he q
    · simp! only
      refine ⟨.d .non, e, S, by unfold mVar; rw [he], ?_⟩
      simp! only
      exact make_ok rfl q
    · simp! only
      refine ⟨.d (.int l), e, S, by unfold mVar; rw [he], ?_⟩
      simp! only
      exact make_ok (by unfold mCons mNil bnd mVar; rw [he]; rfl) q
  have ml : ∀ (r : D) (l : Int) (e : En) (S : Sto) (Q : R → En → Sto → Prop), RmD r l → e[14]? = some (some (.d r)) → Q (.d (.int l)) e S →
      Wp (mIf (bnd (mBin (gIsN false) (mVar 14) (mC .non)) asB) (mC (.int 4)) (mVar 14)) e S Q := by
    rintro r l e S Q (⟨rfl, rfl⟩ | ⟨rfl, _, _⟩) he q
    · simp! only
      refine ⟨.d .non, e, S, by unfold mVar; rw [he], ?_⟩
      simp! only
      exact q
    · simp! only
      refine ⟨.d (.int l), e, S, by unfold mVar; rw [he], ?_⟩
      simp! only
      exact ⟨.d (.int l), e, S, by unfold mVar; rw [he], q⟩
  refine wp_compL_consE (wat_one rfl) (gt_name.mpr ⟨by simp, rfl⟩) ?_
  refine mk _ l1 _ _ _ h1 rfl ?_
  refine ⟨_, rfl, wp_compL_consE (wat_one rfl) (gt_name.mpr ⟨by simp, rfl⟩) ?_⟩
  refine mk _ l2 _ _ _ h2 rfl ?_
  refine ⟨_, rfl, wp_compL_nilE (wat_one rfl) ?_⟩
  simp! only [e__law_right_2]
  refine wp_compL_consE (wat_one rfl) (gt_name.mpr ⟨by simp, rfl⟩) ?_
  refine ml _ l1 _ _ _ h1 rfl ?_
  refine ⟨_, rfl, wp_compL_consE (wat_one rfl) (gt_name.mpr ⟨by simp, rfl⟩) ?_⟩
  refine ml _ l2 _ _ _ h2 rfl ?_
  refine ⟨_, rfl, wp_compL_nilE (wat_one rfl) ?_⟩
  have hl2 := hS2.len
  have eS : S2 ++ [roadO (List.length S2) l1, O.lst []] ++ [roadO (List.length (S2 ++ [roadO (List.length S2) l1, O.lst []])) l2, O.lst []] ++ [O.lst []] ++ [O.lst []] = S2 ++ [roadO (J.length + 2) l1, .lst [], roadO (J.length + 4) l2, .lst [], .lst [], .lst []] := by
    simp [hl2]
  have hS3 : Pot (k + 2) (six J l1 l2 [] [] [] []) (S2 ++ [roadO (J.length + 2) l1, .lst [], roadO (J.length + 4) l2, .lst [], .lst [], .lst []]) := hS2.app
  simp! only
  rw [eS]
  simp only [List.length_append, List.length_cons, List.length_nil, hl2]
  generalize (S2 ++ [roadO (J.length + 2) l1, .lst [], roadO (J.length + 4) l2, .lst [], .lst [], .lst []]) = S3 at hS3 ⊢
  simp! only [e__law_right_3]
  refine (pick_ok (by omega) (by omega) (by omega) hS3).mono ?_
  rintro r S4 ⟨t, rfl, t0, t1, hS4⟩
  obtain ⟨t, rfl⟩ := Int.eq_ofNat_of_zero_le t0
  simp! only
  refine ⟨by omega, ?_⟩
  have hql : (rngD 0 ((t : Nat) : Int).toNat).length = t := by simp [rngD]
  refine wp_forL' (fun pre post e S => ∃ xs ys a3 a6 a7 a8 a9 a10 a11 a12 a13 a14 a15, e = [some (.d (.ref 1)), some (.own (.lst [r1, r2])), some (.own (.lst [.ref (J.length + 2), .ref (J.length + 2 + 2)])), a3, some (.own (.lst [.int l1, .int l2])), some (.own (.lst [.ref (J.length + 2 + 2 + 2), .ref (J.length + 2 + 2 + 2 + 1)])), a6, a7, a8, a9, a10, a11, a12, a13, a14, a15] ∧
    (∀ x ∈ xs, LT x) ∧ (∀ x ∈ ys, LT x) ∧ xs.length ≤ pre.length ∧ ys.length ≤ pre.length ∧ Pot (k + 3 + 33 * pre.length) (six J l1 l2 xs ys xs ys) S) ?_ ?_ ?_
  · exact ⟨[], [], _, _, _, _, _, _, _, _, _, _, _, rfl, by simp, by simp, by simp, by simp, hS4⟩
  · rintro pre a post e S hp ⟨xs, ys, a3, a6, a7, a8, a9, a10, a11, a12, a13, a14, a15, rfl, hx, hy, lx, ly, hS⟩
    have hl := congrArg List.length hp
    rw [hql, List.length_append, List.length_cons] at hl
    refine ⟨_, rfl, ?_⟩
    simp! only
    refine (pick_ok (by omega) (by omega) (by omega) hS).mono ?_
    rintro r S5 ⟨at_, rfl, at0, at1, hS5⟩
    simp! only
    refine (of_brw (by simp) (by simp) (by omega) hS5).mono ?_
    rintro r S6 ⟨way, rfl, hw, hS6⟩
    simp! only
    obtain ⟨i, rfl⟩ : ∃ i : Bool, at_ = if i then 1 else 0 := by
      rcases (show at_ = 0 ∨ at_ = 1 by omega) with rfl | rfl
      · exact ⟨false, rfl⟩
      · exact ⟨true, rfl⟩
    have sideF := fun {k : Nat} {S : Sto} => side (k := k) (S := S) (J := J) (l1 := l1) (l2 := l2) (xs := xs) (ys := ys) i
    refine ⟨.ref (if i then J.length + 2 + 2 else J.length + 2), by cases i <;> rfl, .ref (if i then J.length + 2 + 2 + 2 + 1 else J.length + 2 + 2 + 2), by cases i <;> rfl, .int (if i then l2 else l1), by cases i <;> rfl, ?_⟩
    have hu : ∀ x ∈ (if i then ys else xs), LT x := by cases i <;> assumption
    have lu : (if i then ys else xs).length ≤ pre.length := by cases i <;> assumption
    have after : ∀ (zs : List D) (S : Sto) (a11 a12 a13 a14 a15 : Option Sl) , (∀ x ∈ zs, LT x) → zs.length ≤ pre.length + 1 → Pot (k + 3 + 33 * pre.length + 33) (six J l1 l2 (if i then xs else zs) (if i then zs else ys) (if i then xs else zs) (if i then zs else ys)) S → True := fun _ _ _ _ _ _ _ _ _ _ => trivial
    generalize (if i then J.length + 2 + 2 else J.length + 2) = n at sideF ⊢
    generalize (if i then J.length + 2 + 3 else J.length + 2 + 1) = m at sideF ⊢
    generalize (if i then J.length + 2 + 2 + 2 + 1 else J.length + 2 + 2 + 2) = q at sideF ⊢
    generalize (if i then l2 else l1) = l at sideF ⊢
    generalize (if i then ys else xs) = us at sideF hu lu ⊢
    have hwy : way = .str (Str.ofString "put") ∨ ∃ w, way = .str w ∧ WayT w := by
      simp only [List.mem_cons, List.not_mem_nil, or_false] at hw
      rcases hw with rfl | rfl | rfl | rfl | rfl | rfl | rfl
      · exact .inl rfl
      · exact .inl rfl
      · exact .inl rfl
      · exact .inr ⟨_, rfl, .inl rfl⟩
      · exact .inr ⟨_, rfl, .inr (.inl rfl)⟩
      · exact .inr ⟨_, rfl, .inr (.inr rfl)⟩
      · exact .inr ⟨_, rfl, .inr (.inr rfl)⟩
    clear hw
    rcases hwy with rfl | ⟨w, rfl, hw⟩
    · simp! only
      rw [if_pos (by decide +kernel)]
      refine (letter_ok (by omega) hS6).mono ?_
      rintro r S7 ⟨d, rfl, hd, hS7⟩
      obtain ⟨hR, hq, hne, hset⟩ := sideF hS7
      simp! only [wp_len_refC, hq, wp_meth]
      refine ⟨n, rfl, _, _, hR.o, by decide +kernel, ?_⟩
      refine (put_ok hR (by omega)).mono ?_
      rintro r S8 ⟨rfl, rfl⟩
      have hsb : ∀ b : Bool, shownD (.bl b) = some (shw (.bl b)) := fun b => by cases b <;> rfl
      refine ⟨_, dat_d rfl, _, hsb _, _, dat_d rfl, _, hsb _, ?_⟩
      rw [if_neg (by simp)]
      generalize hb : decide ((us.length : Int) < l) = b
      have hz : (us ++ (List.replicate (if b = true then (1 : Int) else 0).toNat [d]).flatten) = (if (us.length : Int) < l then us ++ [d] else us) := by
        subst hb
        by_cases hlr : (us.length : Int) < l
        · rw [decide_eq_true hlr, if_pos rfl, if_pos hlr]; rfl
        · rw [decide_eq_false hlr, if_neg (by decide), if_neg hlr]; simp
      have hq2 : (S7.set m (.lst (if (us.length : Int) < l then us ++ [d] else us)))[q]? = some (.lst us) := by rw [List.getElem?_set_ne hne.symm]; exact hq
      refine ⟨by rw [hq2]; rfl, by cases b <;> simp, by cases b <;> simp, by cases b <;> simp, us, hq2, by cases b <;> simp <;> omega, ?_⟩
      rw [hz]
      have hzs := hset (if (us.length : Int) < l then us ++ [d] else us)
      have huz : ∀ x ∈ (if (us.length : Int) < l then us ++ [d] else us), LT x := by
        intro x hx
        split at hx
        · rcases List.mem_append.mp hx with hx | hx
          · exact hu x hx
          · cases List.mem_singleton.mp hx; exact hd
        · exact hu x hx
      have luz : (if (us.length : Int) < l then us ++ [d] else us).length ≤ pre.length + 1 := by
        split
        · rw [List.length_append, List.length_singleton]; omega
        · omega
      generalize (if (us.length : Int) < l then us ++ [d] else us) = zs at hzs huz luz ⊢
      generalize (List.set S7 m (O.lst zs)).set q (O.lst zs) = S9 at hzs ⊢
      have gx : ∀ x ∈ (if i = true then xs else zs), LT x := by cases i <;> assumption
      have gy : ∀ x ∈ (if i = true then zs else ys), LT x := by cases i <;> assumption
      have gl : (if i = true then xs else zs).length ≤ pre.length + 1 := by cases i <;> simp <;> omega
      have gm : (if i = true then zs else ys).length ≤ pre.length + 1 := by cases i <;> simp <;> omega
      refine after_ok hzs gx gy (by omega) (by omega) ?_
      refine ⟨_, rfl, ?_⟩
      rw [if_neg (by decide)]
      refine ⟨_, _, _, _, _, _, _, _, _, _, _, _, _, rfl, gx, gy, by simpa using gl, by simpa using gm, hzs.mono (by simp; omega)⟩
    · simp! only
      rw [if_neg (by rcases hw with rfl | rfl | rfl <;> decide +kernel)]
      obtain ⟨hR0, hq0, hne0, hset0⟩ := sideF hS6
      simp! only [wp_len_refC, hq0]
      refine (thing_ok (m := us.length) (by omega) (by omega) hS6).mono ?_
      rintro r S7 ⟨d, rfl, hd, hS7⟩
      obtain ⟨hR, hq, hne, hset⟩ := sideF hS7
      simp! only
      refine (told_ok hA hw (by omega) hd hR (by omega) hu).mono ?_
      rintro r S8 ⟨rfl, rfl⟩
      simp! only
      have hq2 : (S7.set m (.lst (rowT w l d us)))[q]? = some (.lst us) := by rw [List.getElem?_set_ne hne.symm]; exact hq
      refine (due_ok hw (by omega) hd hq2 (by omega) hu).mono ?_
      rintro r S9 ⟨rfl, rfl⟩
      simp! only
      rw [if_neg (by simp)]
      have hzs := hset (rowT w l d us)
      obtain ⟨huz, luz⟩ := rowT_lt (w := w) (l := l) (d := d) hu
      generalize rowT w l d us = zs at hzs huz luz ⊢
      generalize (List.set S7 m (O.lst zs)).set q (O.lst zs) = S9 at hzs ⊢
      have gx : ∀ x ∈ (if i = true then xs else zs), LT x := by cases i <;> assumption
      have gy : ∀ x ∈ (if i = true then zs else ys), LT x := by cases i <;> assumption
      have gl : (if i = true then xs else zs).length ≤ pre.length + 1 := by cases i <;> simp <;> omega
      have gm : (if i = true then zs else ys).length ≤ pre.length + 1 := by cases i <;> simp <;> omega
      simp! only
      refine after_ok hzs gx gy (by omega) (by omega) ?_
      refine ⟨_, rfl, ?_⟩
      rw [if_neg (by decide)]
      refine ⟨_, _, _, _, _, _, _, _, _, _, _, _, _, rfl, gx, gy, by simpa using gl, by simpa using gm, hzs.mono (by simp; omega)⟩
  · rintro e S ⟨xs, ys, a3, a6, a7, a8, a9, a10, a11, a12, a13, a14, a15, rfl, hx, hy, lx, ly, hS⟩
    rw [hql] at hS
    simp! only [e__law_right_4]
    exact ⟨_, hS.mono (by omega)⟩
end G

set_option Elab.async false
set_option linter.all false
set_option maxRecDepth 1000000
set_option maxHeartbeats 4000000
/- ev9 -/
/- evY -/
namespace G
variable [Wld]
open PySem PySem.Spec PyProof.Rows L2
local macro_rules
  | `(tactic| simp! only) => `(tactic| simp only [wp_ySeq, ysQ_nx, ysQ_rt, ysQ_x, wp_yl, wp_yIf, wp_yRet, wp_ySet, wp_yDrop, wp_yPar2, wp_yRaise, wp_bnY, wp_mBinY, wp_mIfY, wp_mNilY, wp_mConsY, wp_mTupY, wp_mCallDY, wp_disp, byQ_l, byQ_r, cyQ_l, cyQ_r, wp_mCallY, flY_rt, flY_nx, flY_x, ev0, ev1, ev2, ev3, ev4, ev5, ev6, ev7, ev8, ev9, wp_ix_refC, wp_setItE, List.map_cons, List.map_nil, List.replicate, List.cons_append, List.nil_append, List.length_cons, List.length_nil, List.set_cons_succ, List.set_cons_zero, List.getElem?_cons_zero, List.getElem?_cons_succ, Option.map_some, Option.bind_some, List.all_cons, List.all_nil, List.isEmpty_nil, List.isEmpty_cons, eq_self, if_true, if_false, ite_true, ite_false, Option.some.injEq, exists_eq_left', exists_eq_left, Nat.reduceAdd, Nat.reduceLT, Nat.reduceLeDiff, Int.reduceLE, Int.reduceLT, Int.reduceNeg, Int.reducePow, Int.reduceToNat])
  | `(tactic| simp! only [$xs,*]) => `(tactic| simp only [wp_ySeq, ysQ_nx, ysQ_rt, ysQ_x, wp_yl, wp_yIf, wp_yRet, wp_ySet, wp_yDrop, wp_yPar2, wp_yRaise, wp_bnY, wp_mBinY, wp_mIfY, wp_mNilY, wp_mConsY, wp_mTupY, wp_mCallDY, wp_disp, byQ_l, byQ_r, cyQ_l, cyQ_r, wp_mCallY, flY_rt, flY_nx, flY_x, ev0, ev1, ev2, ev3, ev4, ev5, ev6, ev7, ev8, ev9, wp_ix_refC, wp_setItE, List.map_cons, List.map_nil, List.replicate, List.cons_append, List.nil_append, List.length_cons, List.length_nil, List.set_cons_succ, List.set_cons_zero, List.getElem?_cons_zero, List.getElem?_cons_succ, Option.map_some, Option.bind_some, List.all_cons, List.all_nil, List.isEmpty_nil, List.isEmpty_cons, eq_self, if_true, if_false, ite_true, ite_false, Option.some.injEq, exists_eq_left', exists_eq_left, Nat.reduceAdd, Nat.reduceLT, Nat.reduceLeDiff, Int.reduceLE, Int.reduceLT, Int.reduceNeg, Int.reducePow, Int.reduceToNat, $xs,*])
theorem law_fp {A : FA} (hA : Dis A) (ns : List Int) (hn : ns.length ≤ 63) : Fp (f_law A) [.d (.lst (ns.map D.int))] [] fun r S' => r = .d (.bl true) := by
  unfold f_law
  rw [fp_runF]
  simp! only [e_law_0]
  refine (begin_ok ns).mono ?_
  rintro r S ⟨rfl, hS⟩
  simp! only [e_law_1, e_law_2]
  have h4 : shownD (.int 4) = some (Str.ofString "4") := by decide +kernel
  refine ⟨_, rfl, _, h4, ?_⟩
  rw [if_neg (by simp)]
  obtain ⟨n, hn2, hn3⟩ : ∃ n : Nat, 1 + min2 ((ns.map D.int).length : Int) 2 = (n : Int) ∧ n ≤ 3 := by
    rw [List.length_map]
    unfold min2
    split
    · exact ⟨3, by omega, by omega⟩
    · exact ⟨1 + ns.length, by omega, by omega⟩
  rw [hn2]
  refine ⟨by omega, ?_⟩
  have hql : (rngD 0 ((n : Nat) : Int).toNat).length = n := by simp [rngD]
  refine wp_compL (fun pre post acc S => (∃ J', Pot (1100 * pre.length) J' S) ∧ acc = List.replicate pre.length (.bl true)) (fun S => wat_nil _ _) ⟨⟨[], hS⟩, rfl⟩ ?_ ?_
  · rintro pre d post acc S hp ⟨⟨J, hS⟩, rfl⟩
    have hl := congrArg List.length hp
    rw [hql, List.length_append, List.length_cons] at hl
    refine ⟨_, gt_name.mpr ⟨by simp, rfl⟩, ?_⟩
    simp! only
    refine (right_ok hA (by omega) hS).mono ?_
    rintro r S1 ⟨rfl, J1, hS1⟩
    refine ⟨_, rfl, ⟨J1, hS1.mono (by simp; omega)⟩, ?_⟩
    rw [List.length_append, List.length_singleton, List.replicate_succ']
  · rintro acc S ⟨_, rfl⟩
    have hb : ∀ m, blsOf (List.replicate m (D.bl true)) = some (List.replicate m true) := fun m => by
      induction m with
      | zero => rfl
      | succ m ih => rw [List.replicate_succ, List.replicate_succ]; unfold blsOf; rw [ih]; rfl
    exact ⟨_, hb _, by simp⟩
theorem law_true {A : FA} (hA : Dis A) (ns : List Int) (h : ns.length ≤ 63) (_ : ∀ z ∈ ns, Builtin.Int.intBits z ≤ 1048576) : ∃ S', f_law A [.d (.lst (ns.map D.int))] [] = some (.d (.bl true), S') := by
  obtain ⟨r, S', h1, rfl⟩ := law_fp (A := A) hA ns h
  exact ⟨S', h1⟩
end G

open PySem PySem.W PyProof.Rows
set_option maxHeartbeats 0 in
theorem PySem.Challenge.cw_standviews_k35_roads_with_room_holds : PySem.Challenge.rw_standviews_k35_roads_with_room.Holds := by
  w_on; o_law; k_head; (case hw => w_witness2)
  k_fill
  refine G.walk_G3 (l := PySem.Challenge.rw_standviews_k35_roads_with_room) (n := 63) (k := 7) (x := "_law_script") rfl (by decide) rfl ⟨rfl, by decide, by decide⟩ (fun w h Y => PySem.W.kIn_of Y) ?F
  case F =>
    intro w mg fa h KX GN hmg
    obtain ⟨I0, hI0, hI1⟩ : ∃ i : G.Wld, w = i.w ∧ i.cls 0 = 309 := ⟨{ w := w, cls := fun _ => 309 }, rfl, rfl⟩
    refine ⟨I0, ?_⟩
    refine' G.law_of (G.txt_mk KX GN hI0 ?hcls_Road ?a0 ?l0 ?c0 ?k0 ?a1 ?l1 ?c1 ?k1 ?a2 ?l2 ?c2 ?k2 ?a3 ?l3 ?c3 ?k3 ?a4 ?l4 ?c4 ?k4 ?a5 ?l5 ?c5 ?k5 ?a6 ?l6 ?c6 ?k6 ?a7 ?l7 ?c7 ?k7 ?a8 ?l8 ?c8 ?k8 ?a9 ?l9 ?c9 ?k9 ?a10 ?l10 ?c10 ?k10 ?a11 ?l11 ?c11 ?k11 ?a12 ?l12 ?c12 ?k12 ?a13 ?l13 ?c13 ?k13 ?a14 ?l14 ?c14 ?k14 ?a15 ?l15 ?c15 ?k15 ?a16 ?l16 ?c16 ?k16 ?a17 ?l17 ?c17 ?k17 ?g_ROOM ?cw_Road ?cp_Road ?ch_Road ?co_Road ?cs_Road ?cm_Road ?ck_Road ?cf_Road_room ?cf_Road_under_way ?i7 ?i8 ?i9 ?i10 ?i11 ?i14 ?n14 ?i15 ?ta_NoLetter ?ta_Full ?ta_ViewError ?ta_NoScript ?ta_NoText ?ta_NoWatcher ?ta_NoDeal ?ta_NoEntry ?ta_NoLine ?ta_NoMoment ?ta_NoPaper ?ta_NoPerson ?ta_NoPiece ?ta_NoPlan ?ta_NoQuestion ?ta_NoRight ?hv1 ?hv2 ?hv3 ?hv4 ?hv5 ?hv6 ?hv7 ?hv8 ?p1NoLetter ?p2NoLetter ?p3NoLetter ?p10NoLetter ?p11NoLetter ?p12NoLetter ?p13NoLetter ?p14NoLetter ?p5NoLetter ?p6NoLetter ?e4NoLetter ?e15NoLetter ?e16NoLetter ?e17NoLetter ?e18NoLetter ?e21NoLetter ?e25NoLetter ?p5Full ?p6Full ?e4Full ?e15Full ?e16Full ?e17Full ?e18Full ?e21Full ?e25Full ?z1Full ?y0NoLetter ?y0Full ?y1NoLetter ?y1Full ?y2NoLetter ?y2Full ?y3NoLetter ?y3Full ?y4NoLetter ?y4Full ?z_ValueError ?z_all ?z_bool ?z_enumerate ?z_int ?z_isinstance ?z_len ?z_min ?z_range ?z_repr ?z_tuple) hmg (G.law_true ?dis)
    (case hcls_Road => exact hI1); (case a0 => k_is); (case l0 => k_is); (case c0 => k_is); (case k0 => k_is); (case a1 => k_is); (case l1 => k_is); (case c1 => k_is); (case k1 => k_is); (case a2 => k_is); (case l2 => k_is); (case c2 => k_is); (case k2 => k_is); (case a3 => k_is); (case l3 => k_is); (case c3 => k_is); (case k3 => k_is); (case a4 => k_is); (case l4 => k_is); (case c4 => k_is); (case k4 => k_is); (case a5 => k_is); (case l5 => k_is); (case c5 => k_is); (case k5 => k_is); (case a6 => k_is); (case l6 => k_is); (case c6 => k_is); (case k6 => k_is); (case a7 => k_is); (case l7 => k_is); (case c7 => k_is); (case k7 => k_is); (case a8 => k_is); (case l8 => k_is); (case c8 => k_is); (case k8 => k_is); (case a9 => k_is); (case l9 => k_is); (case c9 => k_is); (case k9 => k_is); (case a10 => k_is); (case l10 => k_is); (case c10 => k_is); (case k10 => k_is); (case a11 => k_is); (case l11 => k_is); (case c11 => k_is); (case k11 => k_is); (case a12 => k_is); (case l12 => k_is); (case c12 => k_is); (case k12 => k_is); (case a13 => k_is); (case l13 => k_is); (case c13 => k_is); (case k13 => k_is); (case a14 => k_is); (case l14 => k_is); (case c14 => k_is); (case k14 => k_is); (case a15 => k_is); (case l15 => k_is); (case c15 => k_is); (case k15 => k_is); (case a16 => k_is); (case l16 => k_is); (case c16 => k_is); (case k16 => k_is); (case a17 => k_is); (case l17 => k_is); (case c17 => k_is); (case k17 => k_is); (case g_ROOM => k_is); (case cw_Road => k_is); (case cp_Road => k_is); (case ch_Road => k_is); (case co_Road => k_is); (case cs_Road => k_is); (case cm_Road => k_is); (case ck_Road => k_is); (case cf_Road_room => k_is); (case cf_Road_under_way => k_is); (case i7 => k_is); (case i8 => k_is); (case i9 => k_is); (case i10 => k_is); (case i11 => k_is); (case i14 => k_is); (case n14 => k_is); (case i15 => k_is); (case ta_NoLetter => k_is); (case ta_Full => k_is); (case ta_ViewError => k_is); (case ta_NoScript => k_is); (case ta_NoText => k_is); (case ta_NoWatcher => k_is); (case ta_NoDeal => k_is); (case ta_NoEntry => k_is); (case ta_NoLine => k_is); (case ta_NoMoment => k_is); (case ta_NoPaper => k_is); (case ta_NoPerson => k_is); (case ta_NoPiece => k_is); (case ta_NoPlan => k_is); (case ta_NoQuestion => k_is); (case ta_NoRight => k_is); (case hv1 => k_is); (case hv2 => k_is); (case hv3 => (first | k_is | rfl)); (case hv4 => k_is); (case hv5 => k_is); (case hv6 => k_is); (case hv7 => k_is); (case hv8 => k_is); (case p1NoLetter => k_is); (case p2NoLetter => rfl); (case p3NoLetter => k_is); (case p10NoLetter => k_is); (case p11NoLetter => k_is); (case p12NoLetter => k_is); (case p13NoLetter => k_is); (case p14NoLetter => k_is); (case p5NoLetter => k_is); (case p6NoLetter => k_is); (case e4NoLetter => k_is); (case e15NoLetter => k_is); (case e16NoLetter => k_is); (case e17NoLetter => k_is); (case e18NoLetter => k_is); (case e21NoLetter => k_is); (case e25NoLetter => k_is); (case p5Full => k_is); (case p6Full => k_is); (case e4Full => k_is); (case e15Full => k_is); (case e16Full => k_is); (case e17Full => k_is); (case e18Full => k_is); (case e21Full => k_is); (case e25Full => k_is); (case z1Full => k_exc); (case y0NoLetter => kit_is); (case y0Full => kit_is); (case y1NoLetter => kit_is); (case y1Full => kit_is); (case y2NoLetter => kit_is); (case y2Full => kit_is); (case y3NoLetter => kit_is); (case y3Full => kit_is); (case y4NoLetter => kit_is); (case y4Full => kit_is); (case z_ValueError => k_is); (case z_all => k_is); (case z_bool => k_is); (case z_enumerate => k_is); (case z_int => k_is); (case z_isinstance => k_is); (case z_len => k_is); (case z_min => k_is); (case z_range => k_is); (case z_repr => k_is); (case z_tuple => k_is); (case dis => constructor <;> decide)

